import PyProof.Rows.All
import Wide.All
import OpenK.AllK
import Wide.FinOn
import KE.KStateDown
import HandS.Base
import HandS.Call
import HandS.Ends
import HandS.List
import HandS.Comp
import HandS.Iter
import HandS.More
import HandS.Words
import HandS.WordsExc
import HandS.Defaults
import HandS.Conv
import HandS.Deep
import HandS.TupAny
import HandS.Set
import HandS.Strs
import HandS.SetFor
import HandS.Dict
import KE.KDictKeyed
import KE.KeyNested
import KE.GoesSet
import KE.GoesMore
import KE.GoesEnum
import KE.KDictDisplayH
import HandS.Head0
import HandS.Head1
import HandS.Head2
import HandS.HeadEnd
import HandS.HeadHook1
import HandS.HeadHook2
import HandS.Small
import PySem.Challenge.RW_anyvalues_k59_whole_needed_values_are_to
set_option Elab.async false
set_option linter.all false
set_option maxRecDepth 100000
set_option maxHeartbeats 0
/-! The plain law, part 1: machines, reading, order. No program in sight. -/
namespace K59
abbrev OI := Option Int
inductive Lf where
  | tt | ff | ls (a b : Int) | sm (a b : Int) | em (a : Int)
inductive Cn where
  | lf (l : Lf) | nt (l : Lf) | al (ls : List Lf) | an (ls : List Lf)
structure Cs where
  cond : Cn
  moves : List Int
  says : List (Int × Int)
  nxt : Nat
structure Mc where
  tags : Nat
  regs : Nat
  steps : List (List (List Cs))
abbrev Ct := Nat × List OI
abbrev Jt := Nat × Nat × List OI
abbrev An := List (Int × OI)

/-- the value at a source -/
def at1 (src v : Int) (held : List OI) : OI :=
  if src = -1 then some v else if src = -2 then none else (held[src.toNat]?).getD none
def evL (v : Int) (held : List OI) : Lf → Bool
  | .tt => true
  | .ff => false
  | .ls a b => (match at1 a v held, at1 b v held with
    | some x, some y => decide (x < y)
    | _, _ => false)
  | .sm a b => (match at1 a v held, at1 b v held with
    | some x, some y => decide (x = y)
    | _, _ => false)
  | .em a => (at1 a v held).isNone
def evC (v : Int) (held : List OI) : Cn → Bool
  | .lf l => evL v held l
  | .nt l => !evL v held l
  | .al ls => ls.all (evL v held)
  | .an ls => ls.any (evL v held)
def cases (m : Mc) (s t : Nat) : List Cs := (((m.steps[s]?).getD [])[t]?).getD []
def goS (k : Cs) (v : Int) (held : List OI) : Ct := (k.nxt, k.moves.map fun s => at1 s v held)
def sayS (k : Cs) (v : Int) (held : List OI) : An := k.says.map fun p => (p.1, at1 p.2 v held)
def rd (m : Mc) (c : Ct) (t : Nat) (v : Int) : Ct × An :=
  match (cases m c.1 t).find? (fun k => evC v c.2 k.cond) with
  | none => (c, [])
  | some k => (goS k v c.2, sayS k v c.2)
def ans (m : Mc) : Ct → List (Nat × Int) → List An
  | _, [] => []
  | c, (t, v) :: l => (rd m c t v).2 :: ans m (rd m c t v).1 l

/-! right machines -/
def okP (r : Nat) (a : Int) : Prop := -1 ≤ a ∧ a < r
def okS (r : Nat) (a : Int) : Prop := -2 ≤ a ∧ a < r
def okL (r : Nat) : Lf → Prop
  | .tt => True
  | .ff => True
  | .ls a b => okP r a ∧ okP r b
  | .sm a b => okP r a ∧ okP r b
  | .em a => okP r a
def okC (r : Nat) : Cn → Prop
  | .lf l => okL r l
  | .nt l => okL r l
  | .al ls => ls.length ≤ 2 ∧ ∀ l ∈ ls, okL r l
  | .an ls => ls.length ≤ 2 ∧ ∀ l ∈ ls, okL r l
structure okK (r n : Nat) (c : Cs) : Prop where
  cond : okC r c.cond
  len : c.moves.length = r
  moves : ∀ s ∈ c.moves, okS r s
  slen : c.says.length ≤ 8
  says : ∀ p ∈ c.says, okS r p.2
  nxt : c.nxt < n
def okR (r n b : Nat) (cs : List Cs) : Prop := cs.length ≤ b ∧ ∀ c ∈ cs, okK r n c
structure okM (m : Mc) : Prop where
  t1 : 1 ≤ m.tags
  t2 : m.tags ≤ 6
  r2 : m.regs ≤ 2
  s1 : 1 ≤ m.steps.length
  s3 : m.steps.length ≤ 3
  rows : ∀ row ∈ m.steps, row.length = m.tags ∧ ∀ cs ∈ row, okR m.regs m.steps.length 100 cs

/-! strictly rising on a list -/
def SM (g : Int → Int) (l : List Int) : Prop := ∀ a ∈ l, ∀ b ∈ l, a < b → g a < g b
def vals (held : List OI) : List Int := held.filterMap id
theorem mem_vals {x : Int} {held : List OI} : x ∈ vals held ↔ some x ∈ held := by
  unfold vals
  simp
theorem SM.lt {g : Int → Int} {l : List Int} (h : SM g l) {a b : Int} (ha : a ∈ l) (hb : b ∈ l) : g a < g b ↔ a < b := by
  constructor
  · intro q
    by_cases c : a < b
    · exact c
    · by_cases e : a = b
      · subst e
        omega
      · have := h b hb a ha (by omega)
        omega
  · exact h a ha b hb
theorem SM.eq {g : Int → Int} {l : List Int} (h : SM g l) {a b : Int} (ha : a ∈ l) (hb : b ∈ l) : g a = g b ↔ a = b := by
  have h1 := h.lt ha hb
  have h2 := h.lt hb ha
  omega
theorem SM.sub {g : Int → Int} {l k : List Int} (h : SM g l) (s : ∀ x ∈ k, x ∈ l) : SM g k := fun a ha b hb q => h a (s a ha) b (s b hb) q

theorem at1_map (g : Int → Int) (s v : Int) (held : List OI) : at1 s (g v) (held.map (Option.map g)) = (at1 s v held).map g := by
  unfold at1
  split
  · rfl
  · split
    · rfl
    · rw [List.getElem?_map]
      cases held[s.toNat]? with
      | none => rfl
      | some o => rfl
theorem at1_mem {s v x : Int} {held : List OI} (h : at1 s v held = some x) : x ∈ v :: vals held := by
  unfold at1 at h
  split at h
  · cases h
    exact List.mem_cons_self
  · split at h
    · cases h
    · cases e : held[s.toNat]? with
      | none =>
        rw [e] at h
        cases h
      | some o =>
        rw [e] at h
        cases o with
        | none => cases h
        | some y =>
          have : y = x := Option.some.inj h
          subst this
          exact List.mem_cons_of_mem _ (mem_vals.mpr (List.mem_of_getElem? e))
theorem evL_map {g : Int → Int} {v : Int} {held : List OI} (h : SM g (v :: vals held)) (l : Lf) : evL (g v) (held.map (Option.map g)) l = evL v held l := by
  cases l with
  | tt => rfl
  | ff => rfl
  | ls a b =>
    simp only [evL, at1_map]
    cases ea : at1 a v held with
    | none => rfl
    | some x =>
      cases eb : at1 b v held with
      | none => rfl
      | some y =>
        show decide (g x < g y) = decide (x < y)
        simp only [h.lt (at1_mem ea) (at1_mem eb)]
  | sm a b =>
    simp only [evL, at1_map]
    cases ea : at1 a v held with
    | none => rfl
    | some x =>
      cases eb : at1 b v held with
      | none => rfl
      | some y =>
        show decide (g x = g y) = decide (x = y)
        simp only [h.eq (at1_mem ea) (at1_mem eb)]
  | em a =>
    simp only [evL, at1_map]
    cases at1 a v held <;> rfl
theorem evC_map {g : Int → Int} {v : Int} {held : List OI} (h : SM g (v :: vals held)) (c : Cn) : evC (g v) (held.map (Option.map g)) c = evC v held c := by
  have e : evL (g v) (held.map (Option.map g)) = evL v held := funext (evL_map h)
  cases c <;> simp only [evC, e]
def mapA (g : Int → Int) (a : An) : An := a.map fun p => (p.1, p.2.map g)
def mapC (g : Int → Int) (c : Ct) : Ct := (c.1, c.2.map (Option.map g))
theorem rd_map {g : Int → Int} (m : Mc) (c : Ct) (t : Nat) {v : Int} (h : SM g (v :: vals c.2)) : rd m (mapC g c) t (g v) = (mapC g (rd m c t v).1, mapA g (rd m c t v).2) := by
  have e : (fun k : Cs => evC (g v) (c.2.map (Option.map g)) k.cond) = fun k => evC v c.2 k.cond := funext fun k => evC_map h k.cond
  unfold rd
  show (match (cases m c.1 t).find? (fun k => evC (g v) (c.2.map (Option.map g)) k.cond) with
    | none => (mapC g c, [])
    | some k => (goS k (g v) (c.2.map (Option.map g)), sayS k (g v) (c.2.map (Option.map g)))) = _
  rw [e]
  cases (cases m c.1 t).find? (fun k => evC v c.2 k.cond) with
  | none => rfl
  | some k =>
    simp only [goS, sayS, mapC, mapA, List.map_map, at1_map, Function.comp_def]
theorem rd_vals {m : Mc} {c : Ct} {t : Nat} {v x : Int} (h : x ∈ vals (rd m c t v).1.2) : x ∈ v :: vals c.2 := by
  unfold rd at h
  cases e : (cases m c.1 t).find? (fun k => evC v c.2 k.cond) with
  | none =>
    rw [e] at h
    exact List.mem_cons_of_mem _ h
  | some k =>
    rw [e] at h
    have h1 := mem_vals.mp h
    obtain ⟨s, _, hs⟩ := List.mem_map.mp (show some x ∈ k.moves.map (fun s => at1 s v c.2) from h1)
    exact at1_mem hs
theorem rd_says {m : Mc} {c : Ct} {t : Nat} {v x : Int} {p : Int × OI} (hp : p ∈ (rd m c t v).2) (h : p.2 = some x) : x ∈ v :: vals c.2 := by
  unfold rd at hp
  cases e : (cases m c.1 t).find? (fun k => evC v c.2 k.cond) with
  | none =>
    rw [e] at hp
    cases hp
  | some k =>
    rw [e] at hp
    obtain ⟨s, _, hs⟩ := List.mem_map.mp (show p ∈ k.says.map (fun q => (q.1, at1 q.2 v c.2)) from hp)
    rw [← hs] at h
    exact at1_mem h
theorem mapA_inj {g : Int → Int} {l : List Int} (h : SM g l) : ∀ {a b : An}, (∀ p ∈ a, ∀ x, p.2 = some x → x ∈ l) → (∀ p ∈ b, ∀ x, p.2 = some x → x ∈ l) → mapA g a = mapA g b → a = b
  | [], [], _, _, _ => rfl
  | [], _ :: _, _, _, q => by cases q
  | _ :: _, [], _, _, q => by cases q
  | (i, x) :: a, (j, y) :: b, ha, hb, q => by
    simp only [mapA, List.map_cons, List.cons.injEq, Prod.mk.injEq] at q
    obtain ⟨⟨q1, q2⟩, q3⟩ := q
    have ih := mapA_inj h (fun p hp => ha p (List.mem_cons_of_mem _ hp)) (fun p hp => hb p (List.mem_cons_of_mem _ hp)) (show mapA g a = mapA g b from q3)
    subst q1 ih
    have e : x = y := by
      cases x with
      | none =>
        cases y with
        | none => rfl
        | some y => cases q2
      | some x =>
        cases y with
        | none => cases q2
        | some y =>
          have z : g x = g y := Option.some.inj q2
          rw [(h.eq (ha _ List.mem_cons_self x rfl) (hb _ List.mem_cons_self y rfl)).mp z]
    rw [e]

/-! the known values, in order -/
def insI (x : Int) : List Int → List Int
  | [] => [x]
  | y :: l => if x < y then x :: y :: l else if x = y then y :: l else y :: insI x l
theorem mem_insI {x z : Int} : ∀ {l : List Int}, z ∈ insI x l ↔ z = x ∨ z ∈ l
  | [] => by simp [insI]
  | y :: l => by
    unfold insI
    split
    · simp
    · split
      · rename_i e
        subst e
        simp
      · rw [List.mem_cons, mem_insI (l := l), List.mem_cons]
        constructor
        · rintro (h | h | h)
          · exact .inr (.inl h)
          · exact .inl h
          · exact .inr (.inr h)
        · rintro (h | h | h)
          · exact .inr (.inl h)
          · exact .inl h
          · exact .inr (.inr h)
theorem insI_sorted {x : Int} : ∀ {l : List Int}, l.Pairwise (· < ·) → (insI x l).Pairwise (· < ·)
  | [], _ => by simp [insI]
  | y :: l, h => by
    unfold insI
    have h1 := List.pairwise_cons.mp h
    split
    · rename_i hx
      refine List.pairwise_cons.mpr ⟨fun z hz => ?_, h⟩
      rcases List.mem_cons.mp hz with e | hz
      · omega
      · have := h1.1 z hz
        omega
    · split
      · exact h
      · refine List.pairwise_cons.mpr ⟨fun z hz => ?_, insI_sorted h1.2⟩
        rcases mem_insI.mp hz with e | hz
        · omega
        · exact h1.1 z hz
def srt : List Int → List Int
  | [] => []
  | x :: l => insI x (srt l)
theorem mem_srt {z : Int} : ∀ {l : List Int}, z ∈ srt l ↔ z ∈ l
  | [] => by simp [srt]
  | x :: l => by rw [srt, mem_insI, mem_srt, List.mem_cons]
theorem srt_sorted : ∀ l : List Int, (srt l).Pairwise (· < ·)
  | [] => List.Pairwise.nil
  | x :: l => insI_sorted (srt_sorted l)
theorem sorted_unique : ∀ {a b : List Int}, a.Pairwise (· < ·) → b.Pairwise (· < ·) → (∀ x, x ∈ a ↔ x ∈ b) → a = b
  | [], [], _, _, _ => rfl
  | [], y :: b, _, _, h => by
    have := (h y).mpr List.mem_cons_self
    cases this
  | x :: a, [], _, _, h => by
    have := (h x).mp List.mem_cons_self
    cases this
  | x :: a, y :: b, ha, hb, h => by
    have h1 := List.pairwise_cons.mp ha
    have h2 := List.pairwise_cons.mp hb
    have e : x = y := by
      rcases List.mem_cons.mp ((h x).mp List.mem_cons_self) with e | m1
      · exact e
      · rcases List.mem_cons.mp ((h y).mpr List.mem_cons_self) with e | m2
        · exact e.symm
        · have := h2.1 x m1
          have := h1.1 y m2
          omega
    subst e
    congr 1
    refine sorted_unique h1.2 h2.2 fun z => ⟨fun hz => ?_, fun hz => ?_⟩
    · rcases List.mem_cons.mp ((h z).mp (List.mem_cons_of_mem _ hz)) with e | m
      · subst e
        have := h1.1 z hz
        omega
      · exact m
    · rcases List.mem_cons.mp ((h z).mpr (List.mem_cons_of_mem _ hz)) with e | m
      · subst e
        have := h2.1 z hz
        omega
      · exact m
def kn (held : List OI) : List Int := srt (vals held)
theorem mem_kn {x : Int} {held : List OI} : x ∈ kn held ↔ some x ∈ held := by
  unfold kn
  rw [mem_srt, mem_vals]
theorem kn_sorted (held : List OI) : (kn held).Pairwise (· < ·) := srt_sorted _
theorem kn_of {ns : List Int} {held : List OI} (h1 : ns.Pairwise (· < ·)) (h2 : ∀ x, x ∈ ns ↔ some x ∈ held) : ns = kn held :=
  sorted_unique h1 (kn_sorted held) fun x => by rw [h2, mem_kn]
theorem kn_comm (a b : List OI) : kn (a ++ b) = kn (b ++ a) := kn_of (kn_sorted _) fun x => by
  rw [mem_kn, List.mem_append, List.mem_append]
  exact Or.comm
theorem insI_length (x : Int) : ∀ l : List Int, (insI x l).length ≤ l.length + 1
  | [] => by simp [insI]
  | y :: l => by
    unfold insI
    split
    · simp
    · split
      · simp
      · have := insI_length x l
        simp only [List.length_cons]
        omega
theorem srt_length : ∀ l : List Int, (srt l).length ≤ l.length
  | [] => by simp [srt]
  | x :: l => by
    have := insI_length x (srt l)
    have := srt_length l
    simp only [srt, List.length_cons]
    omega
theorem kn_length (held : List OI) : (kn held).length ≤ held.length := by
  have h1 := srt_length (vals held)
  have h2 : (vals held).length ≤ held.length := List.length_filterMap_le _ _
  unfold kn
  omega
theorem sorted_map {g : Int → Int} : ∀ {l : List Int}, l.Pairwise (· < ·) → SM g l → (l.map g).Pairwise (· < ·)
  | [], _, _ => List.Pairwise.nil
  | x :: l, h, hg => by
    have h1 := List.pairwise_cons.mp h
    refine List.pairwise_cons.mpr ⟨fun z hz => ?_, sorted_map h1.2 (hg.sub fun y hy => List.mem_cons_of_mem _ hy)⟩
    obtain ⟨y, hy, e⟩ := List.mem_map.mp hz
    subst e
    exact hg x List.mem_cons_self y (List.mem_cons_of_mem _ hy) (h1.1 y hy)
theorem kn_map {g : Int → Int} {held : List OI} (h : SM g (vals held)) : kn (held.map (Option.map g)) = (kn held).map g := by
  refine (kn_of (sorted_map (kn_sorted held) (h.sub fun x hx => mem_vals.mpr (mem_kn.mp hx))) fun x => ?_).symm
  rw [List.mem_map]
  constructor
  · rintro ⟨y, hy, e⟩
    subst e
    exact List.mem_map.mpr ⟨some y, mem_kn.mp hy, rfl⟩
  · intro hx
    obtain ⟨o, ho, e⟩ := List.mem_map.mp hx
    cases o with
    | none => cases e
    | some y => exact ⟨y, mem_kn.mpr ho, Option.some.inj e⟩

/-! ranks and spots -/
def rk (ns : List Int) (v : Int) : Nat := ns.countP fun k => decide (k < v)
def rl (ns : List Int) (v : Int) : Nat := ns.countP fun k => decide (k ≤ v)
def gk (ns : List Int) (v : Int) : Int := (rk ns v : Int) + (rl ns v : Int)
def ranks (held : List OI) : List OI := held.map (Option.map fun v => (rk (kn held) v : Int))
def shown (rs : List OI) : List OI := rs.map (Option.map fun r => 2 * r + 1)
def many (rs : List OI) : Nat := (kn rs).length
theorem rk_le_rl (ns : List Int) (v : Int) : rk ns v ≤ rl ns v := by
  refine List.countP_mono_left fun x _ h => ?_
  have := of_decide_eq_true h
  exact decide_eq_true (by omega)
theorem rl_le_rk {ns : List Int} {a b : Int} (h : a < b) : rl ns a ≤ rk ns b := by
  refine List.countP_mono_left fun x _ q => ?_
  have := of_decide_eq_true q
  exact decide_eq_true (by omega)
theorem rl_of_mem : ∀ {ns : List Int} {v : Int}, ns.Pairwise (· < ·) → v ∈ ns → rl ns v = rk ns v + 1
  | [], v, _, h => by cases h
  | x :: l, v, hs, h => by
    have h1 := List.pairwise_cons.mp hs
    unfold rl rk
    rw [List.countP_cons, List.countP_cons]
    rcases List.mem_cons.mp h with e | m
    · subst e
      have z1 : l.countP (fun k => decide (k ≤ v)) = 0 := List.countP_eq_zero.mpr fun k hk => by
        have := h1.1 k hk
        simp
        omega
      have z2 : l.countP (fun k => decide (k < v)) = 0 := List.countP_eq_zero.mpr fun k hk => by
        have := h1.1 k hk
        simp
        omega
      rw [z1, z2]
      simp
    · have ih := rl_of_mem h1.2 m
      have := h1.1 v m
      unfold rl rk at ih
      have e1 : decide (x ≤ v) = true := decide_eq_true (by omega)
      have e2 : decide (x < v) = true := decide_eq_true (by omega)
      rw [ih, e1, e2]
      simp only [if_pos]
theorem gk_mem {ns : List Int} {v : Int} (hs : ns.Pairwise (· < ·)) (h : v ∈ ns) : gk ns v = 2 * (rk ns v : Int) + 1 := by
  unfold gk
  rw [rl_of_mem hs h]
  omega
theorem shown_ranks (held : List OI) : shown (ranks held) = held.map (Option.map (gk (kn held))) := by
  unfold shown ranks
  rw [List.map_map]
  refine List.map_congr_left fun o ho => ?_
  cases o with
  | none => rfl
  | some v => simp only [Function.comp, Option.map_some, gk_mem (kn_sorted held) (mem_kn.mpr ho)]
/-- spots rise with values, if one of two is known -/
theorem gk_lt {ns : List Int} {a b : Int} (hs : ns.Pairwise (· < ·)) (h : a ∈ ns ∨ b ∈ ns) (q : a < b) : gk ns a < gk ns b := by
  have h1 := rk_le_rl ns a
  have h2 := rk_le_rl ns b
  have h3 := rl_le_rk (ns := ns) q
  unfold gk
  rcases h with h | h
  · have := rl_of_mem hs h
    omega
  · have := rl_of_mem hs h
    omega
theorem gk_SM {ns : List Int} (hs : ns.Pairwise (· < ·)) (v : Int) : SM (gk ns) (v :: ns) := by
  intro a ha b hb q
  refine gk_lt hs ?_ q
  rcases List.mem_cons.mp ha with ea | ha
  · rcases List.mem_cons.mp hb with eb | hb
    · omega
    · exact .inr hb
  · exact .inl ha
theorem gk_nn (ns : List Int) (v : Int) : 0 ≤ gk ns v := by
  unfold gk
  omega
theorem gk_le (ns : List Int) (v : Int) : gk ns v ≤ 2 * (ns.length : Int) := by
  have h1 : rk ns v ≤ ns.length := List.countP_le_length
  have h2 : rl ns v ≤ ns.length := List.countP_le_length
  unfold gk
  omega
theorem rk_map {g : Int → Int} {ns : List Int} {v : Int} (h : SM g (v :: ns)) : rk (ns.map g) (g v) = rk ns v := by
  unfold rk
  rw [List.countP_map]
  refine List.countP_congr fun k hk => ?_
  simp only [Function.comp, decide_eq_true_eq]
  exact h.lt (List.mem_cons_of_mem _ hk) List.mem_cons_self
/-- ranks hang on the order alone -/
theorem ranks_map {g : Int → Int} {held : List OI} (h : SM g (vals held)) : ranks (held.map (Option.map g)) = ranks held := by
  unfold ranks
  rw [List.map_map, kn_map h]
  refine List.map_congr_left fun o ho => ?_
  cases o with
  | none => rfl
  | some v =>
    simp only [Function.comp, Option.map_some]
    rw [rk_map (h.sub fun x hx => ?_)]
    rcases List.mem_cons.mp hx with e | hx
    · subst e
      exact mem_vals.mpr ho
    · exact mem_vals.mpr (mem_kn.mp hx)
theorem rk_SM {ns : List Int} (hs : ns.Pairwise (· < ·)) : SM (fun v => (rk ns v : Int)) ns := by
  intro a ha b hb q
  have h1 := rl_of_mem hs ha
  have h3 := rl_le_rk (ns := ns) q
  show (rk ns a : Int) < (rk ns b : Int)
  omega
theorem many_ranks (held : List OI) : many (ranks held) = (kn held).length := by
  unfold many ranks
  rw [kn_map (g := fun v => (rk (kn held) v : Int)) ((rk_SM (kn_sorted held)).sub fun x hx => mem_kn.mpr (mem_vals.mp hx)), List.length_map]
theorem ranks_length (held : List OI) : (ranks held).length = held.length := by
  unfold ranks
  rw [List.length_map]
theorem shown_length (rs : List OI) : (shown rs).length = rs.length := by
  unfold shown
  rw [List.length_map]
/-- the rank is the place among the known -/
theorem rk_at : ∀ {ns : List Int} {j : Nat} {v : Int}, ns.Pairwise (· < ·) → ns[j]? = some v → rk ns v = j
  | [], j, v, _, h => by cases h
  | x :: l, 0, v, hs, h => by
    have e : x = v := Option.some.inj h
    subst e
    have h1 := List.pairwise_cons.mp hs
    unfold rk
    rw [List.countP_cons]
    have z2 : l.countP (fun k => decide (k < x)) = 0 := List.countP_eq_zero.mpr fun k hk => by
      have := h1.1 k hk
      simp
      omega
    rw [z2]
    simp
  | x :: l, j + 1, v, hs, h => by
    have h1 := List.pairwise_cons.mp hs
    have m : l[j]? = some v := h
    have ih := rk_at h1.2 m
    have := h1.1 v (List.mem_of_getElem? m)
    unfold rk at ih ⊢
    rw [List.countP_cons, ih, decide_eq_true (show x < v by omega)]
    simp
theorem rk_lt {ns : List Int} {v : Int} (h : v ∈ ns) : rk ns v < ns.length := by
  unfold rk
  have h0 : ns.countP (fun k => decide (k < v)) ≤ ns.length := List.countP_le_length
  by_cases e : ns.countP (fun k => decide (k < v)) = ns.length
  · have := (List.countP_eq_length.mp e) v h
    simp at this
  · omega
/-! contents of a right machine -/
def okCt (m : Mc) (c : Ct) : Prop := c.1 < m.steps.length ∧ c.2.length = m.regs
theorem cases_at {m : Mc} {s t : Nat} {row : List (List Cs)} (h1 : m.steps[s]? = some row) {cs : List Cs} (h2 : row[t]? = some cs) : cases m s t = cs := by
  unfold cases
  rw [h1]
  show (row[t]?).getD [] = cs
  rw [h2]
  rfl
theorem okR_cases {m : Mc} {s t : Nat} (ok : okM m) (hs : s < m.steps.length) (ht : t < m.tags) : okR m.regs m.steps.length 100 (cases m s t) := by
  obtain ⟨o1, o2⟩ := ok.rows m.steps[s] (List.getElem_mem hs)
  have ht' : t < m.steps[s].length := by omega
  have ec : cases m s t = m.steps[s][t] := cases_at (List.getElem?_eq_getElem hs) (List.getElem?_eq_getElem ht')
  rw [ec]
  exact o2 _ (List.getElem_mem ht')
theorem rd_ok {m : Mc} {c : Ct} {t : Nat} {v : Int} (ok : okM m) (okc : okCt m c) (ht : t < m.tags) : okCt m (rd m c t v).1 := by
  unfold rd
  cases e : (cases m c.1 t).find? (fun k => evC v c.2 k.cond) with
  | none => exact okc
  | some k =>
    have okk := (okR_cases ok okc.1 ht).2 k (List.mem_of_find?_eq_some e)
    refine ⟨okk.nxt, ?_⟩
    show (k.moves.map _).length = _
    rw [List.length_map, okk.len]
end K59

namespace K59
open PySem PySem.Spec PyProof.Rows L2
/-! ### trees of values -/
mutual
/-- in the heap H the value v is the tree k -/
def Rp (H : Hp) : NestedKey → V → Prop
  | .none, v => v = .non
  | .num i, v => v = .int i
  | .text x, v => v = .str x
  | .tup ks, v => ∃ a vs, v = .ref a ∧ H a = some (.tup vs) ∧ Rps H ks vs
def Rps (H : Hp) : List NestedKey → List V → Prop
  | [], vs => vs = []
  | k :: ks, vs => ∃ v r, vs = v :: r ∧ Rp H k v ∧ Rps H ks r
end
/-- tuples stay -/
def Tub (H H' : Hp) : Prop := ∀ a xs, H a = some (.tup xs) → H' a = some (.tup xs)
theorem Tub.of {H H' : Hp} (h : Same H H') : Tub H H' := fun a xs e => h a _ e
theorem Tub.trans {H H1 H2 : Hp} (a : Tub H H1) (b : Tub H1 H2) : Tub H H2 := fun c xs e => b c xs (a c xs e)
mutual
theorem Rp.ts {H H' : Hp} (h : Tub H H') : ∀ (k : NestedKey) (v : V), Rp H k v → Rp H' k v
  | .none, v, e => e
  | .num i, v, e => e
  | .text x, v, e => e
  | .tup ks, v, ⟨a, vs, e1, e2, e3⟩ => ⟨a, vs, e1, h a vs e2, Rps.ts h ks vs e3⟩
theorem Rps.ts {H H' : Hp} (h : Tub H H') : ∀ (ks : List NestedKey) (vs : List V), Rps H ks vs → Rps H' ks vs
  | [], vs, e => e
  | k :: ks, vs, ⟨v, r, e1, e2, e3⟩ => ⟨v, r, e1, Rp.ts h k v e2, Rps.ts h ks r e3⟩
end
theorem Rp.up {H H' : Hp} {k : NestedKey} {v : V} (x : Rp H k v) (h : Same H H') : Rp H' k v := Rp.ts (Tub.of h) k v x
theorem Rps.up {H H' : Hp} {k : List NestedKey} {v : List V} (x : Rps H k v) (h : Same H H') : Rps H' k v := Rps.ts (Tub.of h) k v x
theorem Rps.length {H : Hp} : ∀ {ks : List NestedKey} {vs : List V}, Rps H ks vs → vs.length = ks.length
  | [], vs, e => by
    rw [show vs = [] from e]
    rfl
  | k :: ks, vs, ⟨v, r, e1, _, e3⟩ => by
    rw [e1, List.length_cons, List.length_cons, Rps.length e3]
theorem Rps.get {H : Hp} : ∀ {ks : List NestedKey} {vs : List V} {i : Nat} {k : NestedKey}, Rps H ks vs → ks[i]? = some k → ∃ v, vs[i]? = some v ∧ Rp H k v
  | [], vs, i, k, _, h => by cases h
  | k :: ks, vs, 0, k', ⟨v, r, e1, e2, _⟩, h => by
    have e : k = k' := Option.some.inj h
    subst e e1
    exact ⟨v, rfl, e2⟩
  | k :: ks, vs, i + 1, k', ⟨v, r, e1, _, e3⟩, h => by
    subst e1
    obtain ⟨u, h1, h2⟩ := Rps.get (i := i) e3 h
    exact ⟨u, h1, h2⟩
theorem Rps.get2 {H : Hp} : ∀ {ks : List NestedKey} {vs : List V} {i : Nat} {v : V}, Rps H ks vs → vs[i]? = some v → ∃ k, ks[i]? = some k ∧ Rp H k v
  | [], vs, i, v, e, h => by
    rw [show vs = [] from e] at h
    cases h
  | k :: ks, vs, 0, v', ⟨v, r, e1, e2, _⟩, h => by
    subst e1
    have e : v = v' := Option.some.inj h
    subst e
    exact ⟨k, rfl, e2⟩
  | k :: ks, vs, i + 1, v', ⟨v, r, e1, _, e3⟩, h => by
    subst e1
    obtain ⟨u, h1, h2⟩ := Rps.get2 (i := i) e3 h
    exact ⟨u, h1, h2⟩
theorem Rps.app {H : Hp} : ∀ {ks ls : List NestedKey} {vs ws : List V}, Rps H ks vs → Rps H ls ws → Rps H (ks ++ ls) (vs ++ ws)
  | [], ls, vs, ws, e, h => by
    rw [show vs = [] from e]
    exact h
  | k :: ks, ls, vs, ws, ⟨v, r, e1, e2, e3⟩, h => by
    subst e1
    exact ⟨v, r ++ ws, rfl, e2, Rps.app e3 h⟩
theorem Rps.one {H : Hp} {k : NestedKey} {v : V} (h : Rp H k v) : Rps H [k] [v] := ⟨v, [], rfl, h, rfl⟩
theorem Rps.take {H : Hp} : ∀ {ks : List NestedKey} {vs : List V} (n : Nat), Rps H ks vs → Rps H (ks.take n) (vs.take n)
  | ks, vs, 0, _ => rfl
  | [], vs, n + 1, e => by
    rw [show vs = [] from e]
    exact rfl
  | k :: ks, vs, n + 1, ⟨v, r, e1, e2, e3⟩ => by
    subst e1
    exact ⟨v, r.take n, rfl, e2, Rps.take n e3⟩
theorem Rps.drop {H : Hp} : ∀ {ks : List NestedKey} {vs : List V} (n : Nat), Rps H ks vs → Rps H (ks.drop n) (vs.drop n)
  | ks, vs, 0, h => h
  | [], vs, n + 1, e => by
    rw [show vs = [] from e]
    exact rfl
  | k :: ks, vs, n + 1, ⟨v, r, e1, e2, e3⟩ => by
    subst e1
    exact Rps.drop n e3
theorem Rp.tup_mk {H : Hp} {a : Addr} {ks : List NestedKey} {vs : List V} (h : H a = some (.tup vs)) (r : Rps H ks vs) : Rp H (.tup ks) (.ref a) := ⟨a, vs, rfl, h, r⟩
/-- values without a heap -/
def vO : OI → V
  | none => .non
  | some k => .int k
def eO : OI → NestedKey
  | none => .none
  | some k => .num k
theorem rp_eO {H : Hp} {o : OI} {v : V} : Rp H (eO o) v ↔ v = vO o := by
  cases o <;> exact Iff.rfl
theorem rps_eO {H : Hp} : ∀ {l : List OI} {vs : List V}, Rps H (l.map eO) vs ↔ vs = l.map vO
  | [], vs => Iff.rfl
  | o :: l, vs => by
    constructor
    · rintro ⟨v, r, e1, e2, e3⟩
      rw [e1, rp_eO.mp e2, rps_eO.mp e3]
      rfl
    · intro e
      exact ⟨vO o, l.map vO, e, rp_eO.mpr rfl, rps_eO.mpr rfl⟩
theorem rps_num {H : Hp} : ∀ {l : List Int} {vs : List V}, Rps H (l.map NestedKey.num) vs ↔ vs = l.map V.int
  | [], vs => Iff.rfl
  | o :: l, vs => by
    constructor
    · rintro ⟨v, r, e1, e2, e3⟩
      rw [e1, show v = V.int o from e2, rps_num.mp e3]
      rfl
    · intro e
      exact ⟨V.int o, l.map V.int, e, rfl, rps_num.mpr rfl⟩
theorem eO_inj {a b : OI} (h : eO a = eO b) : a = b := by
  cases a with
  | none => cases b with
    | none => rfl
    | some y => cases h
  | some x => cases b with
    | none => cases h
    | some y =>
      injection h with e
      rw [e]
/-! ### a tuple that is held -/
def eH (held : List OI) : NestedKey := .tup (held.map eO)
theorem rp_eH {H : Hp} {held : List OI} {v : V} : Rp H (eH held) v ↔ ∃ a, v = .ref a ∧ H a = some (.tup (held.map vO)) := by
  constructor
  · rintro ⟨a, vs, e1, e2, e3⟩
    rw [rps_eO.mp e3] at e2
    exact ⟨a, e1, e2⟩
  · rintro ⟨a, e1, e2⟩
    exact ⟨a, _, e1, e2, rps_eO.mpr rfl⟩
/-! ### as data, for == -/
mutual
theorem Rp.dp {K : PySem.W.Frag} {H : Hp} : ∀ (k : NestedKey) (v : V), Rp H k v → Dp K H v k.data
  | .none, v, e => by
    rw [show v = .non from e]
    exact .non
  | .num i, v, e => by
    rw [show v = .int i from e]
    exact .int i
  | .text x, v, e => by
    rw [show v = .str x from e]
    exact .str x
  | .tup ks, v, ⟨a, vs, e1, e2, e3⟩ => by
    rw [e1]
    exact .tup (SqT.of e2) (Rps.dp ks vs e3)
theorem Rps.dp {K : PySem.W.Frag} {H : Hp} : ∀ (ks : List NestedKey) (vs : List V), Rps H ks vs → DpAll K H vs (NestedKey.datas ks)
  | [], vs, e => by
    rw [show vs = [] from e]
    exact .nil
  | k :: ks, vs, ⟨v, r, e1, e2, e3⟩ => by
    rw [e1]
    exact .cons (Rp.dp k v e2) (Rps.dp ks r e3)
end
mutual
theorem eqv_data : ∀ a b : NestedKey, PyData.eqv a.data b.data = NestedKey.beq a b
  | .none, .none => rfl
  | .num a, .num b => by simp [NestedKey.data, PyData.eqv, NestedKey.beq, Bool.beq_eq_decide_eq]
  | .text a, .text b => by simp [NestedKey.data, PyData.eqv, NestedKey.beq, Bool.beq_eq_decide_eq]
  | .tup a, .tup b => by
    simp only [NestedKey.data, PyData.eqv, NestedKey.beq]
    exact eqv_datas a b
  | .none, .num _ | .none, .text _ | .none, .tup _ => rfl
  | .num _, .none | .num _, .text _ | .num _, .tup _ => rfl
  | .text _, .none | .text _, .num _ | .text _, .tup _ => rfl
  | .tup _, .none | .tup _, .num _ | .tup _, .text _ => rfl
theorem eqv_datas : ∀ a b : List NestedKey, PyData.eqvAll (NestedKey.datas a) (NestedKey.datas b) = NestedKey.beqAll a b
  | [], [] => rfl
  | a :: as, b :: bs => by
    simp only [NestedKey.datas, PyData.eqvAll, NestedKey.beqAll]
    rw [eqv_data a b, eqv_datas as bs]
  | [], _ :: _ => rfl
  | _ :: _, [] => rfl
end
theorem eqv_dec (a b : NestedKey) : PyData.eqv a.data b.data = decide (a = b) := by
  rw [eqv_data, NestedKey.decide_eq]
mutual
/-- no text in it -/
def noT : NestedKey → Prop
  | .none => True
  | .num _ => True
  | .text _ => False
  | .tup ks => noTs ks
def noTs : List NestedKey → Prop
  | [] => True
  | k :: ks => noT k ∧ noTs ks
end
theorem noTs_of : ∀ {ks : List NestedKey}, (∀ k ∈ ks, noT k) → noTs ks
  | [], _ => trivial
  | k :: ks, h => ⟨h k List.mem_cons_self, noTs_of fun x hx => h x (List.mem_cons_of_mem _ hx)⟩
mutual
theorem canLay_data : ∀ a : NestedKey, noT a → a.data.canLay0 = true
  | .none, _ => by simp [NestedKey.data, PyData.canLay0]
  | .num a, _ => by simp [NestedKey.data, PyData.canLay0]
  | .text a, h => h.elim
  | .tup a, h => by
    simp only [NestedKey.data, PyData.canLay0]
    exact canLay_datas a h
theorem canLay_datas : ∀ a : List NestedKey, noTs a → PyData.canLayAll0 (NestedKey.datas a) = true
  | [], _ => by simp [NestedKey.datas, PyData.canLayAll0]
  | a :: as, h => by
    simp only [NestedKey.datas, PyData.canLayAll0, canLay_data a h.1, canLay_datas as h.2, Bool.and_self]
end
mutual
theorem depth_data : ∀ a : NestedKey, a.data.depth ≤ a.depth + 1
  | .none => by simp [NestedKey.data, PyData.depth, NestedKey.depth]
  | .num a => by simp [NestedKey.data, PyData.depth, NestedKey.depth]
  | .text a => by simp [NestedKey.data, PyData.depth, NestedKey.depth]
  | .tup a => by
    have := depth_datas a
    simp only [NestedKey.data, PyData.depth, NestedKey.depth]
    omega
theorem depth_datas : ∀ a : List NestedKey, PyData.depthAll (NestedKey.datas a) ≤ NestedKey.depthAll a + 1
  | [] => by simp [NestedKey.datas, PyData.depthAll, NestedKey.depthAll]
  | a :: as => by
    have h1 := depth_data a
    have h2 := depth_datas as
    simp only [NestedKey.datas, PyData.depthAll, NestedKey.depthAll]
    omega
end
theorem shaped_data {a : NestedKey} (ht : noT a) (h : a.depth ≤ 60) : SeqAt.shaped a.data = true := by
  unfold SeqAt.shaped
  have h1 := depth_data a
  rw [canLay_data a ht, decide_eq_true (by omega)]
  rfl
end K59

namespace K59
open PySem PySem.Spec PyProof.Rows L2
/-! ### set(list of ints), told with its table -/
section
variable {P : Program} {w : World} {A : Around} {E : Value → Shared → Prop} {s : Shared}
abbrev emptySet (w : World) : Obj := { cls := .type "set", dict := none, data := .set #[] 0 (.fresh 0 0 (!w.params.followText "set-order")) }
/-- set.__init__ of the new empty set by the list at l -/
def InitPost (w : World) (E : Value → Shared → Prop) (s : Shared) (ns : List Int) : Result → Shared → Prop :=
  wants (fun r s₂ => r = .none ∧ ∃ h' tk c, s₂ = { s with heap := h', toks := tk } ∧ SetR w h' s.heap.objs.size (fun j => decide (j ∈ ns)) c ∧ c ≤ ns.length ∧ ∀ b o, s.heap.get? b = some o → h'.get? b = some o) E
theorem ints_at {items : Array Value} {ns : List Int} (hit : IntsAre items.toList ns) (i : Nat) (v : Value) (hv : items[i]? = some v) : ∃ k t, ns[i]? = some k ∧ v = .int k t := by
  have hl := IntsAre.length hit
  rw [Array.length_toList] at hl
  have hi : i < ns.length := by
    rw [← hl]
    exact (Array.getElem?_eq_some_iff.mp hv).1
  obtain ⟨t, e⟩ := IntsAre.int_at hit i v (by rw [Array.getElem?_toList]; exact hv)
  refine ⟨ns[i], t, List.getElem?_eq_getElem hi, ?_⟩
  rw [e, List.getD_eq_getElem?_getD, List.getElem?_eq_getElem hi]
  rfl
theorem call_set_lstI {l : Addr} {items : Array Value} (ns : List Int) {Q : Value → Shared → Prop} (hh : A.handled = none) (hl : s.heap.IsList l items) (hit : IntsAre items.toList ns) (hb : ns.length + 1 < scanBound)
    (h : ∀ (h' : Heap) (tk c : Nat), SetR w h' s.heap.objs.size (fun j => decide (j ∈ ns)) c → c ≤ ns.length → (∀ b o, s.heap.get? b = some o → h'.get? b = some o) → Q (.ref s.heap.objs.size) { s with heap := h', toks := tk }) :
    wpAny (model P w) A (call (.type "set") [.ref l]) Q E s := by
  have hn : items.size = ns.length := by
    have q := IntsAre.length hit
    rwa [Array.length_toList] at q
  obtain ⟨cl0, tl0, hmro⟩ := F.called_set.mro
  have f1 := F.called_set.made
  have f2 := F.called_set.sub
  have f3 := F.called_set.notType
  have f4 := F.called_set.canCreate
  have f5 := F.typeCall_set_1 (.ref l)
  refine wpAny_call (codeAny_of_tree ?_)
  show wpAny _ _ (callAny (.type "set") _) _ _ _
  refine wpAny_pure ⟨Code.quiet_builtin _ (by decide +kernel), codeAny_builtin F.entry_type_call ?_⟩
  rw [Around.under_plain (weight_type_call_type "set" [.ref l] []) rfl]
  repeat (any_goals (first | assumption | wp_step))
  refine codeAny_mono (code_set_led1 (.ref l) (E := E) (Q₁ := fun obj s₁ => obj = .ref s.heap.objs.size ∧ s₁ = { s with heap := s.heap.push (emptySet w) }) ⟨rfl, rfl⟩) fun r s₁ hr => ?_
  match r, hr with
  | .error e, hr => exact hr
  | .ok .next, hr => exact hr.elim
  | .ok .brk, hr => exact hr.elim
  | .ok .cont, hr => exact hr.elim
  | .ok (.ret obj), ⟨e1, e2⟩ =>
    subst e1 e2
    have hS : (s.heap.push (emptySet w)).get? s.heap.objs.size = some (emptySet w) := Heap.get?_push_size _ rfl
    have hT : Shared.TypeIs { s with heap := s.heap.push (emptySet w) } (.ref s.heap.objs.size) "set" := ⟨_, hS, rfl⟩
    have g1 := F.called_set.init.lookup
    have g2 := F.called_set.init.bind (.ref s.heap.objs.size)
    repeat (any_goals (first | assumption | wp_step))
    refine codeAny_mono (codeAny_call_builtin (R := InitPost w E s ns) F.called_set.init.plain F.entry_set_init (check_set_init_1 hT ?_)) fun r₂ s₂ hr₂ => ?_
    · obtain ⟨⟨ocls, odict, odata, oslots⟩, hol, hcl, nl, hdl⟩ := hl
      simp only at hcl hdl
      subst hcl hdl
      have hlS : l < s.heap.objs.size := Heap.lt_size hol
      have hol' : (s.heap.push (emptySet w)).get? l = some { cls := .type "list", dict := odict, data := .seq items nl, slots := oslots } := Heap.get?_push_of_some _ hol
      have hl1 : (s.heap.push (emptySet w)).IsList l items := ⟨_, hol', rfl, nl, rfl⟩
      have k1 := F.sub_list_set
      have k2 := F.sub_list_frozenset
      have k3 : (Value.type "list" == Value.type "dict") = false := by decide
      unfold Builtin.«set.__init__» noKeywords Builtin.Frozenset.updateFrom
      generalize hPI : pyIter = PI
      wp_walk
      subst hPI
      refine wpAny_pyIter_list hl1 (wpAny_bind (wpAny_runValue ?_))
      have hsz : (s.heap.push (emptySet w)).objs.size = s.heap.objs.size + 1 := Heap.size_push ..
      have hne : l ≠ (s.heap.push (emptySet w)).objs.size := by
        rw [hsz]
        exact Nat.ne_of_lt (Nat.lt_succ_of_lt hlS)
      have hSf : s.heap.objs.size ∉ [(s.heap.push (emptySet w)).objs.size, l] := by
        rw [hsz]
        intro m
        rcases List.mem_cons.mp m with m | m
        · exact absurd m (Nat.ne_of_lt (Nat.lt_succ_self _))
        · exact absurd (List.mem_singleton.mp m) (Nat.ne_of_gt hlS)
      refine set_update_ints ((Walks.list (A := A.in1.in1.in1) (by simp [hh]) _ l hne items).toS) s.heap.objs.size hSf ns hn hb (fun i v hv => ints_at hit i v hv) (items.size - 0) 0 _ (by omega) (Nat.zero_le _)
        ⟨⟨_, Heap.get?_push_size _ rfl, rfl, rfl⟩, hl1.push _⟩ ⟨0, Nat.le_refl 0, setR_new_at (Heap.get?_push_of_some _ hS)⟩ fun s' c' hm hc' hS' => ?_
      obtain ⟨h', g2', d', tk', os'⟩ := s'
      obtain rfl : g2' = s.gens := hm.gens
      obtain rfl : d' = s.drawn := hm.drawn
      obtain rfl : os' = s.os := hm.os
      show wpAny _ _ _ _ _ _
      refine wpAny_pure ?_
      show wpAny _ _ (ret Value.none) _ _ _
      refine wpAny_pure ⟨rfl, h', tk', c', rfl, hS', by omega, fun b o e => ?_⟩
      have hb0 : b < s.heap.objs.size := Heap.lt_size e
      refine hm.heap b o (fun m => ?_) (Heap.get?_push_of_some _ (Heap.get?_push_of_some _ e))
      rcases List.mem_cons.mp m with m | m
      · exact absurd m (Nat.ne_of_lt hb0)
      · have m' := List.mem_singleton.mp m
        rw [hsz] at m'
        exact absurd m' (Nat.ne_of_lt (Nat.lt_succ_of_lt hb0))
    · match r₂, hr₂ with
      | .error e, hr₂ => exact hr₂
      | .ok .next, hr₂ => exact hr₂.elim
      | .ok .brk, hr₂ => exact hr₂.elim
      | .ok .cont, hr₂ => exact hr₂.elim
      | .ok (.ret r), ⟨e1, h', tk, c', e2, hS', hc', hk'⟩ =>
        subst e1 e2
        repeat (any_goals (first | assumption | wp_step))
        exact h _ _ _ hS' hc' hk'
end
end K59

namespace K59
open PySem PySem.Spec PyProof.Rows L2
theorem srt_len_of {l ns : List Int} (h1 : l.Nodup) (h2 : ∀ k, k ∈ l ↔ k ∈ ns) : l.length = (srt ns).length := by
  have nd : (srt ns).Nodup := (srt_sorted ns).imp fun h e => by omega
  have p : l.Perm (srt ns) := (List.perm_ext_iff_of_nodup h1 nd).mpr fun k => by rw [h2, mem_srt]
  exact p.length_eq
section
variable {X : Cx}
/-! ### set(list of ints) -/
def rSetI (w : World) : List V → Hp → VK → Prop := fun xs H Q => ∃ (l : Addr) (ns : List Int), xs = [.ref l] ∧ H l = some (.lst (ns.map V.int)) ∧ ns.length ≤ 60 ∧
  ∀ p c, c ≤ ns.length → H p = none → Q (.ref p) (upd H p (SetO w p (fun j => decide (j ∈ ns)) c))
theorem cr_setI (hc : X.calm = true) : CallR X (.type "set") (rSetI X.w) := by
  intro pins s σ H xs us Q I r h
  obtain ⟨l, ns, rfl, hl, hz, q⟩ := h
  rw [Vals.ref1 r]
  obtain ⟨its, rv, pl, _⟩ := I.list (SqL.of hl)
  refine call_set_lstI ns (I.ok.hd hc) pl.isList (by simpa using ints_of_vals rv) (by unfold scanBound; omega) fun h' tk c R hcl hk => ?_
  exact ⟨.ref _, _, I.laid (t' := tk) hk (Nat.le_refl _) (setO_new R), rfl, q _ c hcl (I.hok.fresh (Nat.le_refl _))⟩
/-- len of a set of ints -/
def rLenI (w : World) : List V → Hp → VK → Prop := fun xs H Q => ∃ (a : Addr) (ns : List Int) (c : Nat), xs = [.ref a] ∧ H a = some (SetO w a (fun j => decide (j ∈ ns)) c) ∧ Q (.int ((srt ns).length : Nat)) H
theorem cr_lenI : CallR X (.builtin "len") (rLenI X.w) := by
  intro pins s σ H xs us Q I r h
  obtain ⟨a, ns, c, rfl, ha, q⟩ := h
  rw [Vals.ref1 r]
  obtain ⟨o, es, ep, t, ho, hx, hd, g, nd, hm, hb, hf, hn, _⟩ := setO_get I ha
  have e : es.size = (srt ns).length := by
    rw [← srt_len_of nd fun k => (hm k).symm.trans decide_eq_true_iff, List.length_map, Array.length_toList]
  unfold scanBound at hb
  refine call_len_set ho hx hd hf (by omega) ⟨.int ((srt ns).length : Nat), H, I.tok _, ⟨_, by rw [e]⟩, q⟩
/-! ### {x for x in t if x is not None} -/
def tScN (w : World) (ti : TE) : TE := fun σ H Q => ti σ H fun v H1 => ∃ (a : Addr) (rs : List OI), v = .ref a ∧ H1 a = some (.tup (rs.map vO)) ∧ rs.length ≤ 60 ∧
  ∀ p c, H1 p = none → Q (.ref p) (upd H1 p (SetO w p (fun j => decide (j ∈ vals rs)) c))
theorem vals_take {rs : List OI} {i : Nat} {o : OI} (h : rs[i]? = some o) : vals (rs.take (i + 1)) = vals (rs.take i) ++ o.toList := by
  unfold vals
  rw [List.take_add_one, List.filterMap_append, h]
  cases o <;> rfl
theorem pe_scN {x : PySem.Str} {scope : Scope} {iter : Expr} {ti : TE} {pe pa p1 p2 p3 pos : Pos} {j : Nat} (hc : X.calm = true) (hi : PE X iter ti)
    (hclos : closureFor scope X.env = pure []) (hcell : ∀ y ∈ scope.names, y.2 ≠ .cell) (hkind : scope.kind = .function) (hnames : ∀ y ∈ scope.names, y.2 = .local → scope.names.lookup y.1 = some .local)
    (hx : scope.names.lookup x = some .local) (hd : (x == ("__debug__" : PySem.Str)) = false := by decide) (hs : ∀ z, foldedSetIterable iter X.env z = pure z := by intro _; rfl) :
    PE X (.SetComp (.Name x pe) [⟨.Name x pa, iter, [.Compare (.Name x p1) [.IsNot] [.Constant .none j p2] p3], 0⟩] scope pos) (tScN X.w ti) := by
  refine ⟨fun pins s0 σ H0 Q I0 h0 => ?_⟩
  refine SetComp_goes hclos hcell hkind hnames ?_ hs
  refine thn (hi.run pins s0 σ H0 _ I0 h0) fun u s ⟨y, H, I, r1, a, rs, e, ha, hz, q⟩ => ?_
  subst e
  cases r1
  obtain ⟨its, rv, pl, _⟩ := I.tuple (SqT.of ha)
  have hT : s.heap.IsTuple a its.toArray := pl
  have hlt : (a : Nat) < s.heap.objs.size := by
    obtain ⟨o, ho, _⟩ := hT
    exact Heap.lt_size ho
  have hlen : its.length = rs.length := by rw [← rv.length, List.length_map]
  have hh := I.ok.hd hc
  refine wpAny_pyIter_tuple hT ?_
  refine ⟨_, _, _, _, _, _, rfl, Goes.tuple hh s.heap.objs.size a (Nat.ne_of_lt hlt) its.toArray, ⟨⟨_, Heap.get?_push_size _ rfl, rfl, rfl⟩, hT.push _⟩, fun D C s3 hB hD => ?_⟩
  obtain ⟨⟨h3, tk3, rfl⟩, old, nD, nC, hDC, hnm⟩ := hB
  have sz1 : (s.heap.push { cls := .type "tuple_iterator", data := .fields #[.ref a, .int 0 0] }).objs.size = s.heap.objs.size + 1 := Heap.size_push ..
  have nC' : (s.heap.objs.size + 1 : Nat) ≤ C := by
    have q : (s.heap.push { cls := .type "tuple_iterator", data := .fields #[.ref a, .int 0 0] }).objs.size ≤ C := nC
    rwa [sz1] at q
  have nD' : (s.heap.objs.size + 1 : Nat) ≤ D := by
    have q : (s.heap.push { cls := .type "tuple_iterator", data := .fields #[.ref a, .int 0 0] }).objs.size ≤ D := nD
    rwa [sz1] at q
  have hDC' : (D : Nat) ≠ C := hDC
  have kx : (compEnvC scope [] C X.env).kindOf x = some .local := lookup_relabel_local hx
  have hp : ((compEnvC scope [] C X.env).scope.kind == .class || ((compEnvC scope [] C X.env).scope.kind == .module && (compEnvC scope [] C X.env).locals != (compEnvC scope [] C X.env).globals)) = false := by
    show (scope.kind == .class || (scope.kind == .module && _)) = false
    rw [hkind]
    rfl
  have hk2 : (compEnvC scope [] C X.env).scope.kind = .function := hkind
  refine ⟨fun i s1 => ∃ h' tk m c, s1 = { s with heap := h', toks := tk } ∧ h'.Ns C m ∧ SetR X.w h' D (fun j => decide (j ∈ vals (rs.take i))) c ∧ c ≤ i ∧ ∀ b o, s.heap.get? b = some o → h'.get? b = some o,
    ⟨h3, tk3, _, 0, rfl, hnm, ?_, Nat.le_refl _, fun b o e => old b o (Heap.get?_push_of_some _ e)⟩, ?_, ?_, ?_⟩
  · have e : (fun j : Int => decide (j ∈ vals (rs.take 0))) = fun j => decide (j ∈ ([] : List Int).take 0) := by
      funext j
      rfl
    rw [e]
    exact setR_new_at hD
  · rintro i s1 h' tk ⟨h4, tk4, m, c, rfl, n4, S4, c4, k4⟩ hk' _
    have off : ∀ b : Addr, b ≠ s.heap.objs.size → b ∉ [s.heap.objs.size] := fun b hb hm => hb (List.mem_singleton.mp hm)
    exact ⟨h', tk, m, c, rfl, n4.at' fun o e => hk' _ o (off _ (Nat.ne_of_gt nC')) e, S4.at fun o e => hk' _ o (off _ (Nat.ne_of_gt nD')) e, c4,
      fun b o e => hk' b o (off _ (Nat.ne_of_lt (Heap.lt_size e))) (k4 b o e)⟩
  · rintro i v s1 hi hv st ⟨h4, tk4, m, c, rfl, n4, S4, c4, k4⟩
    have hil : i < rs.length := by
      rw [List.size_toArray] at hi
      omega
    obtain ⟨z, hz1, rz⟩ := rv.get (i := i) (x := vO rs[i]) (by rw [List.getElem?_map, List.getElem?_eq_getElem hil]; rfl)
    have hv' : its[i]? = some v := by simpa using hv
    rw [hz1] at hv'
    cases hv'
    have hri : rs[i]? = some rs[i] := List.getElem?_eq_getElem hil
    refine wpAny_assign_Name (wpAny_storeName_local kx n4 (fun h5 n5 s5 => ?_) hp)
    have D5 : h5.get? D = h4.get? D := s5.2 D hDC'
    have S5 : SetR X.w h5 D (fun j => decide (j ∈ vals (rs.take i))) c := S4.at fun o e => D5.trans e
    have k5 : ∀ b o, s.heap.get? b = some o → h5.get? b = some o := fun b o e => (s5.2 b (Nat.ne_of_lt (Nat.lt_trans (Heap.lt_size e) nC'))).trans (k4 b o e)
    have st5 : ∀ h6 : Heap, (∀ b o, b ≠ D → h5.get? b = some o → h6.get? b = some o) → h6.IsTupleIter s.heap.objs.size a (i + 1) ∧ h6.IsTuple a its.toArray := fun h6 k6 =>
      ⟨st.1.at fun o e => k6 _ o (Nat.ne_of_lt nD') ((s5.2 _ (Nat.ne_of_lt nC')).trans e),
        st.2.at fun o e => k6 _ o (Nat.ne_of_lt (Nat.lt_trans hlt nD')) ((s5.2 _ (Nat.ne_of_lt (Nat.lt_trans hlt nC'))).trans e)⟩
    refine wpAny_tests_one (wpAny_isTrue_Compare1 ?_)
    rw [eval_Name _ _ _ hd]
    refine wpAny_bind (wpAny_standAt (wpAny_loadName_local hk2 kx n5 (v := v) (if_pos rfl) ?_))
    refine Constant_none (isnot_none_gen (wpAny_truthy_bool ?_))
    cases ho : rs[i] with
    | none =>
      rw [ho] at rz hri
      cases rz
      refine ⟨⟨h5, _, _, c, rfl, n5, ?_, Nat.le_succ_of_le c4, k5⟩, st5 h5 fun b o _ e => e⟩
      rw [vals_take hri]
      simpa using S5
    | some n =>
      rw [ho] at rz hri
      obtain ⟨t, rfl⟩ := rz
      show wpAny _ _ _ _ _ _
      rw [eval_Name _ _ _ hd]
      refine wpAny_bind (wpAny_standAt (wpAny_loadName_local hk2 kx n5 (v := .int n t) (if_pos rfl) ?_))
      refine setR_add S5 (by unfold scanBound; omega) fun h6 sb R6 => ?_
      refine ⟨⟨h6, _, _, _, rfl, n5.at' fun o e => (sb.2 _ hDC.symm).trans e, R6.congr fun j => ?_, ?_, fun b o e => (sb.2 b (Nat.ne_of_lt (Nat.lt_trans (Heap.lt_size e) nD'))).trans (k5 b o e)⟩, st5 h6 fun b o hb e => (sb.2 b hb).trans e⟩
      · rw [vals_take hri]
        simp
      · split <;> omega
  · rintro s1 ⟨h4, tk4, m, c, rfl, n4, S4, c4, k4⟩
    refine ⟨m, n4, fun h' hs' => ?_⟩
    have R : SetR X.w h' D (fun j => decide (j ∈ vals rs)) c := by
      have e : rs.take its.toArray.size = rs := List.take_of_length_le (by rw [List.size_toArray]; omega)
      rw [e] at S4
      exact S4.at fun o e => (hs'.2 _ hDC').trans e
    have kk : ∀ b o, s.heap.get? b = some o → h'.get? b = some o := fun b o e => (hs'.2 b (Nat.ne_of_lt (Nat.lt_trans (Heap.lt_size e) nC'))).trans (k4 b o e)
    have nD2 : H D = none := I.hok.fresh (Nat.le_of_succ_le nD')
    exact ⟨.ref D, _, I.laid (t' := tk4) kk (Nat.le_of_succ_le nD') (setO_new R), rfl, q D c nD2⟩
end
end K59

namespace K59
open PySem PySem.Spec PyProof.Rows L2
/-! ### enumerate(tuple) -/
theorem enum_new1 {v : Value} {o : Obj} {HH : Heap → Prop} (B : Begins v o HH) :
    Meets (Builtin.«enumerate.__new__» ⟨[.type "enumerate", v], []⟩) (fun _ R s => HH s.heap ∧
      R (.ok (.ret (.ref (s.heap.push o).objs.size))) { s with heap := (s.heap.push o).push { cls := .type "enumerate", data := .fields #[.none, .bool false, .ref s.heap.objs.size, rawInt 0, .none, .none] } }) :=
  .of_wp fun prog w A R s h => by
    obtain ⟨hp, g, d, tk, os⟩ := s
    obtain ⟨h1, h⟩ := h
    have hsub := sub_enumerate
    have q1 : ∀ {A' : Around} {E : Value → Shared → Prop} {Q : Value → Shared → Prop}, Q (.ref hp.objs.size) ⟨hp.push o, g, d, tk, os⟩ → wpAny (model prog w) A' (pyIter v) Q E ⟨hp, g, d, tk, os⟩ :=
      fun q => B.iter prog w _ _ ⟨hp, g, d, tk, os⟩ _ h1 q
    wp_walk using q1
    refine wpAny_stack_any fun st => wpAny_pure ?_
    split
    · rename_i c _ _ _ _ _
      cases (c == Value.type "enumerate") <;> (wp_walk using q1; exact ⟨_, rfl, h⟩)
    · wp_walk using q1
      exact ⟨_, rfl, h⟩
section
variable {prog : Program} {w : World} {A : Around} {E : Value → Shared → Prop} {s : Shared}
theorem call_enum_tup {l : Addr} {items : Array Value} {Q : Value → Shared → Prop} (hL : s.heap.IsTuple l items)
    (h : ∀ h', IsEnum h' (s.heap.objs.size + 1) s.heap.objs.size 0 .none → h'.IsTupleIter s.heap.objs.size l 0 → (∀ b o, s.heap.get? b = some o → h'.get? b = some o) → Q (.ref (s.heap.objs.size + 1)) { s with heap := h' }) :
    wpAny (model prog w) A (call (.type "enumerate") [.ref l]) Q E s := by
  refine callType_new F.called_enumerate (by decide) (F.typeCall_enumerate_1 _) (F.newCall_enumerate_1 _) (fun obj => F.args_object_init_2 obj _) F.entry_enumerate_new (enum_new1 (begins_tuple l items)) ⟨hL, ?_⟩
  have hz : (s.heap.push { cls := .type "tuple_iterator", data := .fields #[.ref l, .int 0 0] }).objs.size = s.heap.objs.size + 1 := Heap.size_push ..
  show _ ∧ _
  rw [hz]
  have he : IsEnum ((s.heap.push { cls := .type "tuple_iterator", data := .fields #[.ref l, .int 0 0] }).push { cls := .type "enumerate", data := .fields #[.none, .bool false, .ref s.heap.objs.size, rawInt 0, .none, .none] }) (s.heap.objs.size + 1) s.heap.objs.size 0 .none := by
    have q := Heap.get?_push_size (s.heap.push { cls := .type "tuple_iterator", data := .fields #[.ref l, .int 0 0] }) (o := { cls := .type "enumerate", data := .fields #[.none, .bool false, .ref s.heap.objs.size, rawInt 0, .none, .none] }) rfl
    rw [hz] at q
    exact q
  exact ⟨⟨_, he, rfl⟩, h _ he ⟨_, Heap.get?_push_of_some _ (Heap.get?_push_size _ rfl), rfl, rfl⟩ fun b o x => Heap.get?_push_of_some _ (Heap.get?_push_of_some _ x)⟩
end
/-- the tuple at a, each item in a new pair -/
def ItE (K : PySem.W.Frag) (a : Addr) : It :=
  ⟨fun i H => ∃ (xs : List V) (x : V), SqT K H a xs ∧ xs[i]? = some x, fun i H v H' => ∃ T x, v = .ref T ∧ H T = none ∧ H' = upd H T (.tup [.int (i : Nat), x]) ∧ ∀ xs, SqT K H a xs → xs[i]? = some x, fun i H => ∃ xs : List V, SqT K H a xs ∧ xs.length ≤ i⟩
theorem turn_enumT {P : Program} {w : World} {K : PySem.W.Frag} {elts : List Expr} {kk : Nat} {tpos : Pos} (a e it : Addr) :
    Turn P w K (.Tuple elts kk tpos) (ItE K a) [e, it] e (fun i h => (∃ old, IsEnum h e it (0 + ((i : Nat) : Int)) old) ∧ h.IsTupleIter it a i ∧ e ≠ it ∧ e ≠ a ∧ a ≠ it) where
  mem := by simp
  obj := fun i h st b hb => by
    obtain ⟨⟨old, he⟩, ⟨o, ho, hc, hd⟩, _⟩ := st
    rcases List.mem_cons.mp hb with z | z
    · rw [z]
      exact ⟨_, he, fun v q => nomatch q⟩
    · rw [List.mem_singleton.mp z]
      exact ⟨o, ho, fun v q => by rw [hd] at q; cases q⟩
  keep := fun i h h' st k => let ⟨⟨old, he⟩, hi, hne⟩ := st; ⟨⟨old, k e (by simp) _ he⟩, hi.at fun o q => k it (by simp) o q, hne⟩
  item := by
    intro X hP hw hK hc i pins s σ H E I hf st hg
    subst hP hw hK
    obtain ⟨⟨old, he⟩, hit, hne, hea, hai⟩ := st
    obtain ⟨xs, x, hq, hx⟩ := hg
    obtain ⟨its, rv, p, hz⟩ := I.tuple hq
    obtain ⟨u, hu, ru⟩ := rv.get hx
    have hel : e < s.heap.objs.size := Heap.lt_size he
    have hil : it < s.heap.objs.size := by
      obtain ⟨_, q, _⟩ := hit
      exact Heap.lt_size q
    have hi : i < its.toArray.size := by
      rw [List.size_toArray]
      exact (List.getElem?_eq_some_iff.mp hu).1
    refine wpAny_pyNext_enum_itemC (Draws.tuple (A := X.A.in1) (I.ok.hd hc) it a hai its.toArray) he ⟨hit, p⟩ hi hne (by simp [hne, hea]) fun y h' tk hy ho hst' hT hsz hk => ?_
    have ey : y = u := by
      have q : its[i]? = some y := by simpa using hy
      rw [hu] at q
      exact (Option.some.inj q).symm
    subst ey
    refine ⟨_, rfl, wpAny_letOwnedTupleGo_enum (s := { s with heap := h', toks := tk + 1 }) ho fun h'' he' sb => ?_⟩
    have hT2 : h''.get? s.heap.objs.size = some { cls := .type "tuple", data := .seq #[.int (0 + (i : Int)) tk, y] } := (sb.2 _ (Nat.ne_of_gt hel)).trans hT
    have new : ObjOk X.prog X.w (upd H s.heap.objs.size (.tup [.int (i : Nat), x])) h'' s.heap.objs.size (.tup [.int (i : Nat), x]) :=
      ⟨by show 2 ≤ sizeLine; decide, [.int (0 + (i : Int)) tk, y], .cons ⟨_, by rw [Int.zero_add]⟩ (.cons ru .nil), ⟨_, hT2, rfl, _, rfl⟩⟩
    have I1 : Inv X pins σ (upd H s.heap.objs.size (.tup [.int (i : Nat), x])) { s with heap := h'', toks := tk + 1 } :=
      I.turnedNew (ch := [e, it]) (fun b ob hb q => (sb.2 b (fun z => hb (by simp [z]))).trans (hk b ob (fun z => hb (by simp [z])) (fun z => hb (by simp [z])) q)) hf (Nat.le_refl _) new
    refine ⟨.ref s.heap.objs.size, _, I1, rfl, ⟨_, x, rfl, I.hok.fresh (Nat.le_refl _), rfl, fun ys hy => by rw [I.tuple_inj hy hq]; exact hx⟩, ⟨⟨y, ?_⟩, hst'.1.at fun o q => (sb.2 it (Ne.symm hne)).trans q, hne, hea, hai⟩, fun b hb => ?_⟩
    · have e1 : (0 : Int) + ((i + 1 : Nat) : Int) = 0 + (i : Int) + 1 := by omega
      rw [e1]
      exact he'
    · have hb' : b < s.heap.objs.size := by
        rcases List.mem_cons.mp hb with z | z
        · rw [z]
          exact hel
        · rw [List.mem_singleton.mp z]
          exact hil
      rw [upd_ne (Nat.ne_of_lt hb')]
      exact (hf b hb).1
  done := by
    intro X hP hw hK hc i pins s σ H E I hf st hg
    subst hP hw hK
    obtain ⟨⟨old, he⟩, hit, hne, hea, hai⟩ := st
    obtain ⟨xs, hq, hx⟩ := hg
    obtain ⟨its, rv, p, hz⟩ := I.tuple hq
    obtain ⟨f0, f1, f2, f3, f4, f5⟩ := hf it (by simp)
    have hl := rv.length
    have hi : its.toArray.size ≤ i := by
      rw [List.size_toArray]
      omega
    have D : Draws X.prog X.w X.A.in1 it [it, a] 0 (fun _ _ => False) (fun _ h => h.IsTupleIter it a i ∧ h.IsTuple a its.toArray) :=
      { live := fun _ _ st => let ⟨o, ho, _⟩ := st.1; ⟨o, ho⟩
        frame := fun _ _ _ st hk => ⟨st.1.at fun o e => hk it (by simp) o e, st.2.at fun o e => hk a (by simp) o e⟩
        item := fun j s Q E hj st hQ => absurd hj (Nat.not_lt_zero j)
        done := fun s Q E st hE => wpAny_nextOf_tuple_end (I.ok.hd hc) st.1 st.2 (Array.getElem?_eq_none hi) hE }
    exact wpAny_pyNext_enum_endD D he ⟨hit, p⟩ fun h' eb => ⟨rfl, I.turned (t' := s.toks) (fun b o hb q => eb b o hb q) f0 f1 f3 f4 f5⟩
  self := fun A i s Q E st h => let ⟨⟨_, he⟩, _⟩ := st; wpAny_pyIter_enum he h
def iEnT (K : PySem.W.Frag) (ta : TA) : TI := fun σ H R => ta σ H fun vs H1 => ∃ a xs, vs = [.ref a] ∧ H1 a = some (.tup xs) ∧ R (ItE K a) H1
theorem pi_enT {X : Cx} {e : Expr} {ta : TA} {p pos tpos : Pos} {elts : List Expr} {kk : Nat} (hg : Gl X "enumerate") (hm : X.mg "enumerate" = none) (ha : PA X [e] ta) (hs2 : starEach [e] X.env = [(false, eval e X.env)] := by rfl) :
    PI X (.Tuple elts kk tpos) (.Call (.Name "enumerate" p) [e] [] pos) (iEnT X.K ta) := by
  refine ⟨fun pins s σ H R I h => ?_⟩
  refine Call_ (ld_blt I hg hm boot_enumerate (PyProof.Rows.callWith_type1 (thn (ha.run pos pins s σ H _ I h) fun us s1 ⟨vs, H1, I1, r1, q1⟩ => ?_) hs2 rfl))
  · obtain ⟨a, xs, ex, hq, q⟩ := q1
    subst ex
    cases r1 with
    | cons r rr =>
      cases rr
      cases r
      obtain ⟨its, rv, p', hz⟩ := I1.tuple (SqT.of hq)
      have hlt : (a : Nat) < s1.heap.objs.size := by
        obtain ⟨o, ho, _⟩ := p'
        exact Heap.lt_size ho
      refine call_enum_tup p' fun h' he hit hk => wpAny_pyIter_enum he ?_
      have I2 : Inv X pins σ H1 { s1 with heap := h' } := I1.kept (t' := s1.toks) hk
      refine ⟨s1.heap.objs.size + 1, [s1.heap.objs.size + 1, s1.heap.objs.size], _, _, H1, rfl, I2, turn_enumT a (s1.heap.objs.size + 1) s1.heap.objs.size, ⟨⟨.none, he⟩, hit, Nat.succ_ne_self _, Nat.ne_of_gt (Nat.lt_succ_of_lt hlt), Nat.ne_of_lt hlt⟩, fun b hb => ?_, q⟩
      have hle : s1.heap.objs.size ≤ b := by
        rcases List.mem_cons.mp hb with z | z
        · rw [z]
          exact Nat.le_succ _
        · rw [List.mem_singleton.mp z]
          exact Nat.le_refl _
      exact I1.fpOk hle (I1.hok.fresh hle)
end K59

namespace K59
open PySem PySem.Spec PyProof.Rows L2
/-! ### dicts whose keys are trees -/
abbrev NE := List (NestedKey × Addr × Value)
def RawD (P : Program) (w : World) (d : Addr) (xs : NE) (h : Heap) : Prop :=
  (d == sysModules) = false ∧ ∃ o es ep, h.get? d = some o ∧ o.ExactDict ∧ o.data = .dict es ep ∧ es.toList = xs.map (entryOfKey (nestedKind P w)) ∧ (xs.map (·.1)).Nodup
def DicO (P : Program) (w : World) (d : Addr) (xs : NE) : HO := .ext (RawD P w d xs)
/-- at d a dict with the keys ks stands -/
def Dic (P : Program) (w : World) (H : Hp) (d : Addr) (ks : List NestedKey) : Prop :=
  ∃ xs : NE, H d = some (DicO P w d xs) ∧ xs.map (·.1) = ks ∧ ∀ x ∈ xs, Rp H x.1 (.ref x.2.1) ∧ x.1.depth ≤ 8
section
variable {P : Program} {w : World} {H H' : Hp} {h : Heap} {d : Addr} {xs : NE} {ks : List NestedKey}
theorem RawD.ok (r : RawD P w d xs h) : ObjOk P w H h d (DicO P w d xs) := by
  obtain ⟨y, o, es, ep, ho, r'⟩ := id r
  refine ⟨r, ⟨o, ho⟩, fun h1 h2 p k => ?_⟩
  obtain ⟨y, o, es, ep, ho, r'⟩ := p
  exact ⟨y, o, es, ep, k o ho, r'⟩
theorem Dic.up (x : Dic P w H d ks) (s : Same H H') : Dic P w H' d ks := by
  obtain ⟨xs, e1, e2, e3⟩ := x
  exact ⟨xs, s _ _ e1, e2, fun z hz => ⟨(e3 z hz).1.up s, (e3 z hz).2⟩⟩
theorem Dic.to (x : Dic P w H d ks) (ts : Tub H H') (e : H' d = H d) : Dic P w H' d ks := by
  obtain ⟨xs, e1, e2, e3⟩ := x
  exact ⟨xs, e.trans e1, e2, fun z hz => ⟨Rp.ts ts _ _ (e3 z hz).1, (e3 z hz).2⟩⟩
theorem Dic.here (x : Dic P w H d ks) : ∃ xs : NE, H d = some (DicO P w d xs) := ⟨x.choose, x.choose_spec.1⟩
mutual
theorem Rp.nested (ok : HOk P w H h) : ∀ (k : NestedKey) (v : V) (u : Value), Rp H k v → RelV v u → NestedIs h k u
  | .none, v, u, e, r => by
    rw [show v = .non from e] at r
    cases r
    exact .none
  | .num i, v, u, e, r => by
    rw [show v = .int i from e] at r
    obtain ⟨t, rfl⟩ := r
    exact .int i t
  | .text x, v, u, e, r => by
    rw [show v = .str x from e] at r
    obtain ⟨t, rfl⟩ := r
    exact .text x t
  | .tup ks, v, u, ⟨a, vs, e1, e2, e3⟩, r => by
    rw [e1] at r
    cases r
    obtain ⟨_, its, rv, ⟨o, ho, hc, n, hd⟩⟩ := ok a _ e2
    exact .tup ho hc hd (Rps.nested ok ks vs its e3 rv)
theorem Rps.nested (ok : HOk P w H h) : ∀ (ks : List NestedKey) (vs : List V) (us : List Value), Rps H ks vs → Vals vs us → NestedAll h ks us
  | [], vs, us, e, r => by
    rw [show vs = [] from e] at r
    cases r
    exact .nil
  | k :: ks, vs, us, ⟨v, r0, e1, e2, e3⟩, r => by
    rw [e1] at r
    cases r with
    | cons r1 r2 => exact .cons (Rp.nested ok k v _ e2 r1) (Rps.nested ok ks r0 _ e3 r2)
end
theorem Dic.raw (x : H d = some (DicO P w d xs)) (e3 : ∀ x ∈ xs, Rp H x.1 (.ref x.2.1) ∧ x.1.depth ≤ 8) (ok : HOk P w H h) : (d == sysModules) = false ∧ h.DictOfH (nestedKind P w) d xs := by
  obtain ⟨⟨y, o, es, ep, ho, hx, hd, he, hn⟩, _⟩ := ok d _ x
  exact ⟨y, o, es, ep, ho, hx, hd, he, fun z hz => ⟨Rp.nested ok _ _ _ (e3 z hz).1 rfl, (e3 z hz).2⟩, hn⟩
theorem atKey_mem (xs : NE) (k : NestedKey) : (atKey xs k).isSome = decide (k ∈ xs.map (·.1)) := by
  unfold atKey
  rw [Option.isSome_map, Bool.eq_iff_iff, List.find?_isSome]
  simp only [decide_eq_true_eq, List.mem_map]
def addK (ks : List NestedKey) (k : NestedKey) : List NestedKey := if k ∈ ks then ks else ks ++ [k]
theorem storedH_keys (xs : NE) (k : NestedKey) (a : Addr) (v : Value) : (storedH xs k a v).map (·.1) = addK (xs.map (·.1)) k := by
  unfold storedH addK
  rw [atKey_mem]
  by_cases h : k ∈ xs.map (·.1)
  · rw [if_pos (decide_eq_true h), if_pos h, List.map_map]
    refine List.map_congr_left fun x _ => ?_
    show (putAt k v x).1 = x.1
    unfold putAt
    split <;> rfl
  · rw [if_neg (by simpa using h), if_neg h, List.map_append]
    rfl
theorem storedH_mem {xs : NE} {k : NestedKey} {a : Addr} {v : Value} {x : NestedKey × Addr × Value} (h : x ∈ storedH xs k a v) : (x.1 = k ∧ x.2.1 = a) ∨ ∃ y ∈ xs, y.1 = x.1 ∧ y.2.1 = x.2.1 := by
  unfold storedH at h
  split at h
  · obtain ⟨y, hy, e⟩ := List.mem_map.mp h
    refine .inr ⟨y, hy, ?_⟩
    subst e
    unfold putAt
    split <;> exact ⟨rfl, rfl⟩
  · rcases List.mem_append.mp h with h | h
    · exact .inr ⟨x, h, rfl, rfl⟩
    · rw [List.mem_singleton.mp h]
      exact .inl ⟨rfl, rfl⟩
end
section
variable {X : Cx}
/-- k in d, k not in d -/
def rInD (P : Program) (w : World) (neg : Bool) : R2 := fun x y H Q => ∃ (d : Addr) (ks : List NestedKey) (k : NestedKey), y = .ref d ∧ Dic P w H d ks ∧ (∃ a, x = .ref a) ∧ Rp H k x ∧ k.depth ≤ 8 ∧ Q (.bl (if neg then !decide (k ∈ ks) else decide (k ∈ ks))) H
theorem op_inD (hu : X.A.units + 64 < cLine) : OpR X (compareOp .In) (rInD X.prog X.w false) := by
  intro pins s σ H x y v u Q I rx ry h
  obtain ⟨d, ks, k, rfl, ⟨xs, e1, rfl, e3⟩, ⟨a, rfl⟩, hk, hd, q⟩ := h
  cases rx
  cases ry
  obtain ⟨hs, hm⟩ := Dic.raw e1 e3 I.hok
  refine wpAny_in_heap (knd := nestedKind X.prog X.w) (k := k) (by show X.A.units + 1 + 8 < cLine; omega) ⟨Rp.nested I.hok _ _ _ hk rfl, hd⟩ hs hm ?_
  exact ⟨.bl _, H, I.tok _, by rw [atKey_mem]; rfl, q⟩
theorem op_niD (hu : X.A.units + 64 < cLine) : OpR X (compareOp .NotIn) (rInD X.prog X.w true) := by
  intro pins s σ H x y v u Q I rx ry h
  obtain ⟨d, ks, k, rfl, ⟨xs, e1, rfl, e3⟩, ⟨a, rfl⟩, hk, hd, q⟩ := h
  cases rx
  cases ry
  obtain ⟨hs, hm⟩ := Dic.raw e1 e3 I.hok
  show wpAny _ _ (do return Value.bool (!(← contains (.ref d) (.ref a)))) _ _ s
  refine wpAny_bind (wpAny_contains_heap (knd := nestedKind X.prog X.w) (k := k) (by show X.A.units + 1 + 8 < cLine; omega) ⟨Rp.nested I.hok _ _ _ hk rfl, hd⟩ hs hm (wpAny_pure ?_))
  exact ⟨.bl _, H, I.tok _, by rw [atKey_mem]; rfl, q⟩
/-- what stands behind a store -/
def NewD (P : Program) (w : World) (d : Addr) (ks : List NestedKey) (H H' : Hp) : Prop := Dic P w H' d ks ∧ ∀ b, b ≠ d → H' b = H b
theorem NewD.ts {P : Program} {w : World} {d : Addr} {ks ks0 : List NestedKey} {H H' : Hp} (n : NewD P w d ks H H') (o : Dic P w H d ks0) : Tub H H' := fun a xs e => by
  obtain ⟨ys, e1⟩ := o.here
  rw [n.2 a (ne_of e e1 fun q => by cases q)]
  exact e
theorem write_dic {pins : List (Addr × Obj)} {σ : L2.St} {H : Hp} {s : Shared} {d a : Addr} {xs : NE} {k : NestedKey} {v : Value} {h' : Heap} {tk : Nat} (I : Inv X pins σ H s) (e1 : H d = some (DicO X.prog X.w d xs)) (e3 : ∀ x ∈ xs, Rp H x.1 (.ref x.2.1) ∧ x.1.depth ≤ 8)
    (hs : (d == sysModules) = false) (hk : Rp H k (.ref a)) (hd : k.depth ≤ 8) (hm' : h'.DictOfH (nestedKind X.prog X.w) d (storedH xs k a v)) (sb : Heap.SameBut d s.heap h') :
    ∃ H', Inv X pins σ H' { s with heap := h', toks := tk } ∧ NewD X.prog X.w d (addK (xs.map (·.1)) k) H H' := by
  obtain ⟨o, es, ep, ho, hx, hdt, he, _, hn⟩ := hm'
  have r : RawD X.prog X.w d (storedH xs k a v) h' := ⟨hs, o, es, ep, ho, hx, hdt, he, hn⟩
  have ts : Tub H (upd H d (DicO X.prog X.w d (storedH xs k a v))) := fun b ys e => by
    rw [upd_ne (ne_of e e1 fun q => by cases q)]
    exact e
  refine ⟨upd H d (DicO X.prog X.w d (storedH xs k a v)), I.write (e := d) (t' := tk) (by rw [e1]; trivial) (.inl rfl) (fun b u hb hu => (sb.2 b hb).trans hu) ⟨o, ho⟩ r.ok, ⟨_, upd_same, storedH_keys xs k a v, fun x hx => ?_⟩, fun b hb => upd_ne hb⟩
  rcases storedH_mem hx with ⟨z1, z2⟩ | ⟨y, hy, z1, z2⟩
  · rw [z1, z2]
    exact ⟨Rp.ts ts _ _ hk, hd⟩
  · rw [← z1, ← z2]
    exact ⟨Rp.ts ts _ _ (e3 y hy).1, (e3 y hy).2⟩
/-- d[k] = v -/
def rPutD (P : Program) (w : World) : TSet := fun o i v H Q => ∃ (d : Addr) (ks : List NestedKey) (k : NestedKey), o = .ref d ∧ Dic P w H d ks ∧ (∃ a, i = .ref a) ∧ Rp H k i ∧ k.depth ≤ 8 ∧ ks.length ≤ 1000000 ∧ ∀ H', NewD P w d (addK ks k) H H' → Q H'
theorem put_dic (hu : X.A.units + 64 < cLine) : PSet X (rPutD X.prog X.w) := by
  intro pins s σ H o i v ov iv u Q I ro ri rv h
  obtain ⟨d, ks, k, rfl, ⟨xs, e1, rfl, e3⟩, ⟨a, rfl⟩, hk, hd, hl, q⟩ := h
  cases ro
  cases ri
  obtain ⟨hs, hm⟩ := Dic.raw e1 e3 I.hok
  rw [List.length_map] at hl
  refine wpAny_setItem_heap (knd := nestedKind X.prog X.w) (k := k) (hsz := by rw [sizeLine_eq]; omega) (by show X.A.units + 1 + 8 < cLine; omega) ⟨Rp.nested I.hok _ _ _ hk rfl, hd⟩ hm fun h' hm' sb => ?_
  obtain ⟨H', I', n⟩ := write_dic (tk := s.toks + (nestedKind X.prog X.w).draws k) I e1 e3 hs hk hd hm' sb
  exact ⟨H', I', q H' n⟩
theorem raw_new {P : Program} {w : World} (h : Heap) (hb : sysModules < h.objs.size) : RawD P w h.objs.size [] (h.push { cls := .type "dict", data := .dict #[] }) := by
  obtain ⟨o, es, ep, ho, hx, hd, he, _, hn⟩ := Heap.DictOfH.new (knd := nestedKind P w) h
  refine ⟨beq_eq_false_iff_ne.mpr fun e => ?_, o, es, ep, ho, hx, hd, he, hn⟩
  rw [e] at hb
  exact absurd hb (Nat.lt_irrefl _)
/-- {} -/
def tNewD (P : Program) (w : World) : TE := fun _ H Q => ∀ p H', H p = none → Same H H' → Dic P w H' p [] → Q (.ref p) H'
theorem pe_newD {pos : Pos} : PE X (.Dict [] [] pos) (tNewD X.prog X.w) := ⟨fun pins s σ H Q I h => by
  have hn := I.hok.fresh (Nat.le_refl s.heap.objs.size)
  refine wpAny_Dict_empty ⟨.ref s.heap.objs.size, _, I.laid (a := s.heap.objs.size) (o := DicO X.prog X.w s.heap.objs.size []) (t' := s.toks) (fun _ _ q => Heap.get?_push_of_some _ q) (Nat.le_refl _) (raw_new s.heap I.big).ok, rfl, h _ _ hn (fun b o e => ?_) ⟨[], upd_same, rfl, fun x hx => by cases hx⟩⟩
  rw [upd_ne (ne_of_none e hn)]
  exact e⟩
/-- {k: v} -/
def tDisp1 (P : Program) (w : World) (tk tv : TE) : TE := fun σ H Q => ∀ p H0, H p = none → Same H H0 → Dic P w H0 p [] → tk σ H0 fun x H1 => tv σ H1 fun _ H2 => ∃ k, (∃ a, x = .ref a) ∧ Rp H2 k x ∧ k.depth ≤ 8 ∧ Dic P w H2 p [] ∧ ∀ H', NewD P w p [k] H2 H' → Q (.ref p) H'
theorem pe_disp1 {k v : Expr} {tk tv : TE} {pos : Pos} (hu : X.A.units + 64 < cLine) (hk : PE X k tk) (hv : PE X v tv) : PE X (.Dict [some k] [v] pos) (tDisp1 X.prog X.w tk tv) := by
  refine ⟨fun pins s σ H Q I q => ?_⟩
  have hn := I.hok.fresh (Nat.le_refl s.heap.objs.size)
  have I1 := I.laid (a := s.heap.objs.size) (o := DicO X.prog X.w s.heap.objs.size []) (h' := s.heap.push { cls := .type "dict", data := .dict #[] }) (t' := s.toks) (fun _ _ q => Heap.get?_push_of_some _ q) (Nat.le_refl _) (raw_new s.heap I.big).ok
  have q1 := q s.heap.objs.size _ hn (fun b o e => by rw [upd_ne (ne_of_none e hn)]; exact e) ⟨[], upd_same, rfl, fun x hx => by cases hx⟩
  have sh : (evalEachOpt [some k] X.env).zip ((evalEach [v] X.env).map fun v => do let x ← v; standAt pos; pure x) = ([(eval k X.env, do let x ← eval v X.env; standAt pos; pure x)] : List (Sem Value × Sem Value)).map fun p => (some p.1, p.2) := rfl
  rw [arm_eval_Dict, sh, dictDisplay_pairs _ (by simp) (by show 1 < 17; omega)]
  refine wpAny_bind (wpAny_standAt (wpAny_bind (wpAny_subDictH (knd := nestedKind X.prog X.w) (by show X.A.units + 8 < cLine; omega) (by show 1 ≤ 15; omega) ?_)))
  refine evalPairs_cons (thn (hk.run pins _ σ _ _ I1 q1) fun u s1 ⟨x, H1, I2, rx, q2⟩ => ?_)
  refine wpAny_bind (thn (hv.run pins s1 σ H1 _ I2 q2) fun u2 s2 ⟨y, H2, I3, ry, k', ⟨a, ex⟩, hk', hd, ⟨xs, e1, e2, e3⟩, q3⟩ => wpAny_bind (wpAny_standAt (wpAny_pure (evalPairs_nil ?_))))
  subst ex
  cases rx
  have exs : xs = [] := List.map_eq_nil_iff.mp e2
  subst exs
  obtain ⟨hs, hm⟩ := Dic.raw e1 e3 I3.hok
  refine ⟨[(k', a, u2)], ⟨rfl, rfl, ⟨Rp.nested I3.hok _ _ _ hk' rfl, hd⟩, trivial⟩, hm, fun h' tk' hm' sb => ?_⟩
  obtain ⟨H', I', n⟩ := write_dic (tk := tk') I3 e1 e3 hs hk' hd (show h'.DictOfH (nestedKind X.prog X.w) _ (storedH [] k' a u2) from hm') sb
  exact wpAny_pure ⟨.ref _, H', I', rfl, q3 H' n⟩
end
end K59

namespace K59
open PySem PySem.Spec PyProof.Rows L2
def top (i : Nat) : Stmt := PySem.Challenge.pw_anyvalues_k59_whole_needed_values_are_to.main.body.getD i (.Pass ⟨0, 0, 0, 0⟩)
abbrev s_value_at : Stmt := top 3
abbrev s_holds : Stmt := top 4
abbrev s_case_for : Stmt := top 5
abbrev s_read : Stmt := top 6
abbrev s_answers_from : Stmt := top 7
abbrev s_ranks_of : Stmt := top 9
abbrev s_spots_of : Stmt := top 11
abbrev s_with_values : Stmt := top 14
abbrev s_needed_by : Stmt := top 15
abbrev s_needed : Stmt := top 16
abbrev s_l_draws : Stmt := top 18
abbrev s_l_take : Stmt := top 19
abbrev s_l_cell : Stmt := top 20
abbrev s_l_condition : Stmt := top 21
abbrev s_l_drawn_case : Stmt := top 22
abbrev s_l_drawn_machine : Stmt := top 23
abbrev s_l_shaped_machine : Stmt := top 24
abbrev s_l_with_case : Stmt := top 25
abbrev s_l_changed : Stmt := top 26
abbrev s_l_machine : Stmt := top 27
abbrev s_l_with_tag : Stmt := top 28
abbrev s_l_at : Stmt := top 29
abbrev s_l_holds : Stmt := top 30
abbrev s_l_case : Stmt := top 31
abbrev s_l_read : Stmt := top 32
abbrev s_l_ranks : Stmt := top 33
abbrev s_l_many : Stmt := top 34
abbrev s_l_log : Stmt := top 35
abbrev s_l_shown : Stmt := top 36
abbrev s_l_path : Stmt := top 37
abbrev s_l_placed_in : Stmt := top 38
abbrev s_l_items : Stmt := top 39
abbrev s_l_numbers : Stmt := top 40
abbrev s_l_parting : Stmt := top 41
abbrev s_l_spaced : Stmt := top 42
abbrev s_l_any_type : Stmt := top 43
abbrev s_law : Stmt := top 44
abbrev s_Pair_init : Stmt := inClass (top 13) 0
abbrev s_Pair_joint_type : Stmt := inClass (top 13) 1
abbrev s_Pair_contents : Stmt := inClass (top 13) 2
abbrev s_Pair_after : Stmt := inClass (top 13) 3
abbrev s_Pair_is_parted : Stmt := inClass (top 13) 4
/-! ### what the module's names hold -/
structure Tx (K : PySem.W.Frag) (mg : PySem.Str → Option Value) : Prop where
  nall : mg "all" = none
  nany : mg "any" = none
  nenum : mg "enumerate" = none
  ntuple : mg "tuple" = none
  nsorted : mg "sorted" = none
  nset : mg "set" = none
  nlen : mg "len" = none
  nrange : mg "range" = none
  nlist : mg "list" = none
  nint : mg "int" = none
  read : ∃ t, mg "READ" = some (.int (-1) t)
  nothing : ∃ t, mg "NOTHING" = some (.int (-2) t)
/-- a def as it stands -/
def Df (K : PySem.W.Frag) (mg : PySem.Str → Option Value) (x : PySem.Str) (st : Stmt) : Prop := ∃ f fd, FunD K x x (defArgs st) (defBody st) (defScope st) [] [] f fd ∧ mg x = some (.ref f)
/-- a def that keeps a promise, called by its name -/
def Cal (P : Program) (w : World) (K : PySem.W.Frag) (mg : PySem.Str → Option Value) (base : Heap) (x : PySem.Str) (k : Nat) (ps : List PySem.Str) (sp : Sp) : Prop :=
  ∃ f fd, FnOk P w K mg base CX0 k f fd ps sp ∧ mg x = some (.ref f) ∧ PySem.W.keepIn K (.ref f) = true ∧ Binds K fd ps []
theorem Df.cal {P : Program} {w : World} {K : PySem.W.Frag} {mg : PySem.Str → Option Value} {base : Heap} {x : PySem.Str} {st : Stmt} {N ps : List PySem.Str} {k : Nat} {sp : Sp} (D : Df K mg x st) (S : FnScope N ps (defScope st)) (len : ∀ vs H Q E, sp vs H Q E → vs.length = ps.length)
    (bnd : ∀ (kV doc pm : Value) (an : Option Addr) (cdv ct : Value) (us : List Value), us.length = ps.length → bindArgs (PySem.W.fnOf x x (defArgs st) (defBody st) (defScope st) .none kV doc pm an cdv ct) ⟨us, []⟩ = pure (ps.zip us))
    (hbody : ∀ (f : Addr) (cdv : Value) (A : Around) (outer : List Env) (s : Shared) (H : Hp) (vs : List V) (Q : VK) (E : XK), Room k (A.deeper (envOfC x (defScope st) s.heap.objs.size f cdv)) → sp vs H Q E →
      ∃ t, PSs (cxOf CX0 P w K mg base N x (defScope st) f cdv A outer s H E).nox (defBody st) t ∧ t { nx := fun _ H' => Q .non H', rt := Q } (start N vs) H) : Cal P w K mg base x (k + 1) ps sp := by
  obtain ⟨f, fd, F, hm⟩ := D
  refine ⟨f, fd, F.ok S len fun cdv A outer s H vs Q E hr h => ?_, hm, F.kp, F.bindsN bnd⟩
  obtain ⟨t, h1, h2⟩ := hbody f cdv A outer s H vs Q E hr h
  exact ⟨t, h1.nox, h2⟩
theorem Cal.mono {P : Program} {w : World} {K : PySem.W.Frag} {mg : PySem.Str → Option Value} {base : Heap} {x : PySem.Str} {j k : Nat} {ps : List PySem.Str} {sp : Sp} (C : Cal P w K mg base x j ps sp) (h : j ≤ k) : Cal P w K mg base x k ps sp := by
  obtain ⟨f, fd, F, r⟩ := C
  exact ⟨f, fd, F.mono h, r⟩
section
variable {X : Cx} {x : PySem.Str} {k : Nat} {ps : List PySem.Str} {sp : Sp} {e : Expr} {es : List Expr} {t : TA} {p pos : Pos}
/-- a call of such a def, at least at its level -/
theorem pe_cal {j : Nat} (C : Cal X.prog X.w X.K X.mg X.base x k ps sp) (hr : Room j X.A) (ha : PA X (e :: es) t) (hkj : k ≤ j := by first | decide | omega) (hg : Gl X x := by rfl) (hdb : (x == ("__debug__" : PySem.Str)) = false := by decide)
    (he : starEach (e :: es) X.env = (false, eval e X.env) :: starEach es X.env := by rfl) (hpl : (backTo pos (starEach es X.env)).any (·.1) = false := by rfl) : PE X (.Call (.Name x p) (e :: es) [] pos) (tCall sp [] E0 t) := by
  obtain ⟨f, fd, F, hm, hk, hb⟩ := C
  exact pe_call (F.mono hkj) hr hg hm hk hb .nil pass0 ha hdb he hpl
end
section
variable {X : Cx}
/-! ### an item of a tracked tuple, list -/
def rT : R2 := fun x y H Q => ∃ p, x = .ref p ∧ ∃ xs, H p = some (.tup xs) ∧ ∃ i, y = .int i ∧ ∃ v, atI xs i = some v ∧ Q v H
def rL : R2 := fun x y H Q => ∃ p, x = .ref p ∧ ∃ xs, H p = some (.lst xs) ∧ ∃ i, y = .int i ∧ ∃ v, atI xs i = some v ∧ Q v H
theorem ixR_imp {r r' : R2} (h : IxR X r) (i : ∀ x y H Q, r' x y H Q → r x y H Q) : IxR X r' := fun value slice pins s σ H x y v u Q I rx ry q hs => h value slice pins s σ H x y v u Q I rx ry (i _ _ _ _ q) hs
theorem ixT : IxR X rT := ixR_imp ix_tup fun _ _ _ _ ⟨p, e1, xs, e2, i, e3, v, e4, q⟩ => ⟨p, xs, i, v, e1, e3, SqT.of e2, e4, q⟩
theorem ixL : IxR X rL := ixR_imp ix_list fun _ _ _ _ ⟨p, e1, xs, e2, i, e3, v, e4, q⟩ => ⟨p, xs, i, v, e1, e3, SqL.of e2, e4, q⟩
/-! ### len, tuple(), list() of tracked ones -/
def rLenL : List V → Hp → VK → Prop := fun xs H Q => ∃ p, xs = [.ref p] ∧ ∃ ys, H p = some (.lst ys) ∧ Q (.int ys.length) H
def rLenT : List V → Hp → VK → Prop := fun xs H Q => ∃ p, xs = [.ref p] ∧ ∃ ys, H p = some (.tup ys) ∧ Q (.int ys.length) H
theorem callR_imp {f : Value} {r r' : List V → Hp → VK → Prop} (h : CallR X f r) (i : ∀ x H Q, r' x H Q → r x H Q) : CallR X f r' := fun pins s σ H xs us Q I rv q => h pins s σ H xs us Q I rv (i _ _ _ q)
theorem cr_lenL : CallR X (.builtin "len") rLenL := callR_imp call_len_seq fun _ _ _ ⟨p, e1, ys, e2, q⟩ => ⟨p, ys, e1, .inl (SqL.of e2), q⟩
theorem cr_lenT : CallR X (.builtin "len") rLenT := callR_imp call_len_seq fun _ _ _ ⟨p, e1, ys, e2, q⟩ => ⟨p, ys, e1, .inr (SqT.of e2), q⟩
/-- tuple(list) -/
def rTupL : List V → Hp → VK → Prop := fun xs H Q => ∃ p, xs = [.ref p] ∧ ∃ ys, H p = some (.lst ys) ∧ ∀ l, H l = none → Q (.ref l) (upd H l (.tup ys))
theorem cr_tupL : CallR X (.type "tuple") rTupL := callR_imp call_tuple_of fun _ _ _ ⟨p, e1, ys, e2, q⟩ => ⟨p, ys, e1, .inl ⟨SqL.of e2, q⟩⟩
def rLstL : List V → Hp → VK → Prop := fun xs H Q => ∃ p, xs = [.ref p] ∧ ∃ ys, H p = some (.lst ys) ∧ ∀ l, H l = none → Q (.ref l) (upd H l (.lst ys))
def rLstT : List V → Hp → VK → Prop := fun xs H Q => ∃ p, xs = [.ref p] ∧ ∃ ys, H p = some (.tup ys) ∧ ∀ l, H l = none → Q (.ref l) (upd H l (.lst ys))
theorem cr_lstL : CallR X (.type "list") rLstL := callR_imp call_list_of fun _ _ _ ⟨p, e1, ys, e2, q⟩ => ⟨p, ys, e1, .inl (SqL.of e2), q⟩
theorem cr_lstT : CallR X (.type "list") rLstT := callR_imp call_list_of fun _ _ _ ⟨p, e1, ys, e2, q⟩ => ⟨p, ys, e1, .inr (SqT.of e2), q⟩
def rInt1 : List V → Hp → VK → Prop := fun xs H Q => ∃ i, xs = [.int i] ∧ Q (.int i) H
def rIntB : List V → Hp → VK → Prop := fun xs H Q => ∃ b, xs = [.bl b] ∧ Q (.int (if b then 1 else 0)) H
theorem cr_int1 : CallR X (.type "int") rInt1 := callR_imp call_int1 fun _ _ _ ⟨i, e1, q⟩ => .inl ⟨i, e1, q⟩
theorem cr_intB : CallR X (.type "int") rIntB := callR_imp call_int1 fun _ _ _ ⟨i, e1, q⟩ => .inr ⟨i, e1, q⟩
/-! ### == of trees -/
def rEqR (neg : Bool) : R2 := fun x y H Q => ∃ a b, Rp H a x ∧ Rp H b y ∧ noT a ∧ noT b ∧ a.depth ≤ 60 ∧ b.depth ≤ 60 ∧ Q (.bl (if neg then !decide (a = b) else decide (a = b))) H
theorem op_eqR (hu : X.A.units + 64 < cLine) : OpR X (compareOp .Eq) (rEqR false) := fun pins s σ H x y v u Q I rx ry ⟨a, b, ha, hb, ta, tb, da, db, q⟩ =>
  op_eqD hu pins s σ H x y v u Q I rx ry ⟨a.data, b.data, Rp.dp a x ha, Rp.dp b y hb, shaped_data ta da, shaped_data tb db, by rw [eqv_dec]; exact q⟩
theorem op_neR (hu : X.A.units + 64 < cLine) : OpR X (compareOp .NotEq) (rEqR true) := fun pins s σ H x y v u Q I rx ry ⟨a, b, ha, hb, ta, tb, da, db, q⟩ =>
  op_neD hu pins s σ H x y v u Q I rx ry ⟨a.data, b.data, Rp.dp a x ha, Rp.dp b y hb, shaped_data ta da, shaped_data tb db, by rw [eqv_dec]; exact q⟩
/-- a module's int -/
theorem pe_gInt {x : PySem.Str} {i : Int} {pos : Pos} (hm : ∃ t, X.mg x = some (.int i t)) (hg : Gl X x := by rfl) (hd : (x == ("__debug__" : PySem.Str)) = false := by decide) : PE X (.Name x pos) (tC (.int i)) := by
  obtain ⟨t, h⟩ := hm
  exact pe_glob hg h ⟨_, rfl⟩ hd
/-! ### a slice of a tracked tuple, of any kind -/
def rSlX : V → Option Int → Option Int → Hp → VK → Prop := fun x lo hi H Q => ∃ a, x = .ref a ∧ ∃ xs, H a = some (.tup xs) ∧ ∀ p H', Same H H' → H' p = some (.tup (cutV xs lo hi)) → Q (.ref p) H'
theorem cut_whole {xs : List V} {lo hi : Option Int} (h : HT.sIx xs.length 0 lo = 0 ∧ HT.sIx xs.length xs.length hi = xs.length) : cutV xs lo hi = xs := by
  unfold cutV
  rw [h.1, h.2]
  simp
theorem same_new {H : Hp} {p : Addr} {o : HO} (h : H p = none) : Same H (upd H p o) := fun b u e => by
  rw [upd_ne (ne_of_none e h)]
  exact e
theorem sl_X : SlR X rSlX := fun pins s σ H x v vl vu lo hi sl Q I rx hs pl pu ⟨a, e1, xs, e2, q⟩ =>
  sl_tupA pins s σ H x v vl vu lo hi sl Q I rx hs pl pu ⟨a, xs, e1, SqT.of e2, fun h => q a H (Same.refl H) (by rw [cut_whole h]; exact e2), fun _ p hp => q p _ (same_new hp) upd_same⟩
/-- t + u -/
def rCatX : R2 := fun x y H Q => ∃ a, x = .ref a ∧ ∃ b, y = .ref b ∧ ∃ xs, H a = some (.tup xs) ∧ ∃ ys, H b = some (.tup ys) ∧ xs.length + ys.length ≤ sizeLine ∧ ∀ p H', Same H H' → H' p = some (.tup (xs ++ ys)) → Q (.ref p) H'
theorem op_catX : OpR X (binaryOp .Add) rCatX := fun pins s σ H x y v u Q I rx ry ⟨a, e1, b, e2, xs, e3, ys, e4, hz, q⟩ =>
  op_catA pins s σ H x y v u Q I rx ry ⟨a, b, xs, ys, e1, e2, SqT.of e3, SqT.of e4, hz, fun h => q b H (Same.refl H) (by rw [h]; exact e4), fun _ h => q a H (Same.refl H) (by rw [h, List.append_nil]; exact e3), fun _ _ p hp => q p _ (same_new hp) upd_same⟩
end
/-! ### what a reading comes to, step by step (all by rfl): for simp -/
section
variable {σ : L2.St} {H : Hp} {Q : VK} {QB : Bool → Hp → Prop} {D : Ends} {K : PySem.W.Frag}
theorem u_var {i : Nat} : tVar i σ H Q = ∃ v, σ[i]? = some (some v) ∧ Q v H := rfl
theorem u_c {v : V} : tC v σ H Q = Q v H := rfl
theorem u_op {r : R2} {a b : TE} : tOp r a b σ H Q = a σ H fun x H1 => b σ H1 fun y H2 => r x y H2 Q := rfl
theorem u_un {r : V → Hp → VK → Prop} {a : TE} : tUn r a σ H Q = a σ H fun x H1 => r x H1 Q := rfl
theorem u_I0 {g : Int → Int → V} {x y : V} : rI0 g x y H Q = ∃ i, x = .int i ∧ ∃ j, y = .int j ∧ Q (g i j) H := propext ⟨fun ⟨i, j, a, b, c⟩ => ⟨i, a, j, b, c⟩, fun ⟨i, a, j, b, c⟩ => ⟨i, j, a, b, c⟩⟩
theorem u_I {C : Int → Int → Prop} {g : Int → Int → V} {x y : V} : rI C g x y H Q = ∃ i, x = .int i ∧ ∃ j, y = .int j ∧ C i j ∧ Q (g i j) H := propext ⟨fun ⟨i, j, a, b, c⟩ => ⟨i, a, j, b, c⟩, fun ⟨i, a, j, b, c⟩ => ⟨i, j, a, b, c⟩⟩
theorem u_U {g : Int → V} {x : V} : rU g x H Q = ∃ i, x = .int i ∧ Q (g i) H := rfl
theorem u_eq {x y : V} : rEq x y H Q = (scal x y = true ∧ Q (.bl (decide (x = y))) H) := rfl
theorem u_ne {x y : V} : rNe x y H Q = (scal x y = true ∧ Q (.bl (!decide (x = y))) H) := rfl
theorem u_T {x y : V} : rT x y H Q = ∃ p, x = .ref p ∧ ∃ xs, H p = some (.tup xs) ∧ ∃ i, y = .int i ∧ ∃ v, atI xs i = some v ∧ Q v H := rfl
theorem u_L {x y : V} : rL x y H Q = ∃ p, x = .ref p ∧ ∃ xs, H p = some (.lst xs) ∧ ∃ i, y = .int i ∧ ∃ v, atI xs i = some v ∧ Q v H := rfl
theorem u_test {t : TE} : tTest t σ H QB = t σ H fun x H' => ∃ k, x = .bl k ∧ QB k H' := rfl
theorem u_B {t : TE} : tB t σ H QB = t σ H fun x H' => ∃ k, x = .bl k ∧ QB k H' := rfl
theorem u_and {t u : TT} : tAnd t u σ H QB = t σ H fun c H1 => if c = true then u σ H1 QB else QB false H1 := rfl
theorem u_or {t u : TT} : tOr t u σ H QB = t σ H fun c H1 => if c = true then QB true H1 else u σ H1 QB := rfl
theorem u_not {t : TT} : tNot t σ H QB = t σ H fun c H1 => QB (!c) H1 := rfl
theorem u_notV {t : TE} : tNotV t σ H Q = t σ H fun x H1 => ∃ c, x = .bl c ∧ Q (.bl (!c)) H1 := rfl
theorem u_isN {t : TE} : tIsN t σ H Q = t σ H fun x H1 => Q (.bl (decide (x = .non))) H1 := rfl
theorem u_notN {t : TE} : tNotN t σ H Q = t σ H fun x H1 => Q (.bl (!decide (x = .non))) H1 := rfl
theorem u_if {t : TT} {a b : TE} : tIf t a b σ H Q = t σ H fun c H1 => if c = true then a σ H1 Q else b σ H1 Q := rfl
theorem u_nil {QA : List V → Hp → Prop} : tNil σ H QA = QA [] H := rfl
theorem u_cons {a : TE} {r : TA} {QA : List V → Hp → Prop} : tCons a r σ H QA = a σ H fun x H1 => r σ H1 fun xs H2 => QA (x :: xs) H2 := rfl
theorem u_call {sp : Sp} {dvs : List V} {E : XK} {t : TA} : tCall sp dvs E t σ H Q = t σ H fun vs H1 => sp (vs ++ dvs) H1 Q E := rfl
theorem u_CB {r : List V → Hp → VK → Prop} {t : TA} : tCB r t σ H Q = t σ H fun vs H1 => r vs H1 Q := rfl
theorem u_lenL {xs : List V} : rLenL xs H Q = ∃ p, xs = [.ref p] ∧ ∃ ys, H p = some (.lst ys) ∧ Q (.int ys.length) H := rfl
theorem u_lenT {xs : List V} : rLenT xs H Q = ∃ p, xs = [.ref p] ∧ ∃ ys, H p = some (.tup ys) ∧ Q (.int ys.length) H := rfl
theorem u_int1 {xs : List V} : rInt1 xs H Q = ∃ i, xs = [.int i] ∧ Q (.int i) H := rfl
theorem u_intB {xs : List V} : rIntB xs H Q = ∃ b, xs = [.bl b] ∧ Q (.int (if b then 1 else 0)) H := rfl
theorem u_seq {t u : TS} : tSeq t u D σ H = t { D with nx := u D } σ H := rfl
theorem u_asg {te : TE} {g : TG} : tAsg te g D σ H = te σ H fun x H1 => g x σ H1 D.nx := rfl
theorem u_name {i : Nat} {v : V} {QG : L2.St → Hp → Prop} : gName i v σ H QG = QG (σ.set i (some v)) H := rfl
theorem u_ret {te : TE} : tRet te D σ H = te σ H D.rt := rfl
theorem u_ifS {c : TT} {t u : TS} : tIfS c t u D σ H = c σ H fun b H1 => if b = true then t D σ H1 else u D σ H1 := rfl
theorem u_next : tNext D σ H = D.nx σ H := rfl
theorem u_drop {te : TE} : tDrop te D σ H = te σ H fun _ H1 => D.nx σ H1 := rfl
theorem u_break : tBreak D σ H = D.bk σ H := rfl
theorem u_yes {QT : Bool → Hp → Prop} : tYes σ H QT = QT true H := rfl
theorem u_aug {i : Nat} {te : TE} {ti : TIp} : tAug i te ti D σ H = ∃ x, σ[i]? = some (some x) ∧ te σ H fun y H1 => ti x y H1 fun z H2 => D.nx (σ.set i (some z)) H2 := rfl
theorem u_ipI {f : Int → Int → Int} {x y : V} : ipI f x y H Q = ∃ i, x = .int i ∧ ∃ j, y = .int j ∧ Q (.int (f i j)) H := propext ⟨fun ⟨i, j, a, b, c⟩ => ⟨i, a, j, b, c⟩, fun ⟨i, a, j, b, c⟩ => ⟨i, j, a, b, c⟩⟩
end
theorem atI_z {α : Type} {xs : List α} (n : Nat) : atI xs (n : Int) = xs[n]? := by
  unfold atI ixN
  rw [if_pos (Int.natCast_nonneg n)]
  by_cases h : n < xs.length
  · rw [if_pos (by omega)]
    rfl
  · rw [if_neg (by omega), List.getElem?_eq_none (by omega)]
    rfl
theorem atI_0 {α : Type} {xs : List α} : atI xs 0 = xs[0]? := atI_z 0
theorem atI_1 {α : Type} {xs : List α} : atI xs 1 = xs[1]? := atI_z 1
theorem atI_2 {α : Type} {xs : List α} : atI xs 2 = xs[2]? := atI_z 2
theorem atI_3 {α : Type} {xs : List α} : atI xs 3 = xs[3]? := atI_z 3
/-- a new tuple, a new list: not to be opened by simp -/
def NewT (H : Hp) (xs : List V) (Q : VK) : Prop := ∀ p, H p = none → Q (.ref p) (upd H p (.tup xs))
def NewL (H : Hp) (xs : List V) (Q : VK) : Prop := ∀ p, H p = none → Q (.ref p) (upd H p (.lst xs))
def NewTL (H : Hp) (xs : List V) (Q : VK) : Prop := xs.length ≤ sizeLine ∧ ∀ p, H p = none → Q (.ref p) (upd H p (.tup xs))
def NewLL (H : Hp) (xs : List V) (Q : VK) : Prop := xs.length ≤ sizeLine ∧ ∀ p, H p = none → Q (.ref p) (upd H p (.lst xs))
def NewX (H : Hp) (xs : List V) (Q : VK) : Prop := ∀ p H', Same H H' → H' p = some (.tup xs) → Q (.ref p) H'
section
variable {σ : L2.St} {H : Hp} {Q : VK} {D : Ends} {K : PySem.W.Frag}
theorem u_tup {t : TA} : tTup t σ H Q = t σ H fun xs H1 => NewTL H1 xs Q := rfl
theorem u_lst {t : TA} : tLst t σ H Q = t σ H fun xs H1 => NewLL H1 xs Q := rfl
theorem u_tupL {xs : List V} : rTupL xs H Q = ∃ p, xs = [.ref p] ∧ ∃ ys, H p = some (.lst ys) ∧ NewT H ys Q := rfl
theorem u_lstL {xs : List V} : rLstL xs H Q = ∃ p, xs = [.ref p] ∧ ∃ ys, H p = some (.lst ys) ∧ NewL H ys Q := rfl
theorem u_lstT {xs : List V} : rLstT xs H Q = ∃ p, xs = [.ref p] ∧ ∃ ys, H p = some (.tup ys) ∧ NewL H ys Q := rfl
theorem u_catX {x y : V} : rCatX x y H Q = ∃ a, x = .ref a ∧ ∃ b, y = .ref b ∧ ∃ xs, H a = some (.tup xs) ∧ ∃ ys, H b = some (.tup ys) ∧ xs.length + ys.length ≤ sizeLine ∧ NewX H (xs ++ ys) Q := rfl
theorem u_slX {x : V} {lo hi : Option Int} : rSlX x lo hi H Q = ∃ a, x = .ref a ∧ ∃ xs, H a = some (.tup xs) ∧ NewX H (cutV xs lo hi) Q := rfl
theorem u_sl {r : V → Option Int → Option Int → Hp → VK → Prop} {te : TE} {tl th : TO} : tSl r te tl th σ H Q = te σ H fun x H1 => tl σ H1 fun l H2 => th σ H2 fun u H3 => r x l u H3 Q := rfl
theorem u_noP {QO : Option Int → Hp → Prop} : tNoPart σ H QO = QO none H := rfl
theorem u_part {t : TE} {QO : Option Int → Hp → Prop} : tPart t σ H QO = t σ H fun x H1 => ∃ i, x = .int i ∧ QO (some i) H1 := rfl
theorem u_eqR {x y : V} {neg : Bool} : rEqR neg x y H Q = ∃ a b, Rp H a x ∧ Rp H b y ∧ noT a ∧ noT b ∧ a.depth ≤ 60 ∧ b.depth ≤ 60 ∧ Q (.bl (if neg then !decide (a = b) else decide (a = b))) H := rfl
theorem u_gtup {v : V} {n : Nat} {t : TGs} {QG : L2.St → Hp → Prop} : gTup K n t v σ H QG = ∃ a xs, v = .ref a ∧ SqT K H a xs ∧ xs.length = n ∧ t xs σ H QG := rfl
theorem u_gnil {QG : L2.St → Hp → Prop} : gNil [] σ H QG = QG σ H := propext ⟨fun h => h.2, fun h => ⟨rfl, h⟩⟩
theorem u_gcons {t : TG} {u : TGs} {v : V} {vs : List V} {QG : L2.St → Hp → Prop} : gCons t u (v :: vs) σ H QG = t v σ H fun σ' H' => u vs σ' H' QG := propext ⟨fun ⟨_, _, e, h⟩ => by cases e; exact h, fun h => ⟨_, _, rfl, h⟩⟩
end
/-- a target of names over a tracked tuple -/
theorem gtup_of {K : PySem.W.Frag} {σ : L2.St} {H : Hp} {a : Addr} {xs : List V} {n : Nat} {t : TGs} {QG : L2.St → Hp → Prop} (h : H a = some (.tup xs)) (hl : xs.length = n) (q : t xs σ H QG) : gTup K n t (.ref a) σ H QG := ⟨a, xs, rfl, SqT.of h, hl, q⟩
section
variable {X : Cx}
/-- a target of n names, the written part told by its name -/
theorem pg_tupK {K : PySem.W.Frag} {n : Nat} {es : List Expr} {k : Nat} {pos : Pos} {t : TGs} (hK : X.K = K) (hc : X.calm = true) (h : PGs X es t) (hn : (assignEach es X.env).length = n := by rfl) (hst : (assignEach es X.env).findIdx? (·.1) = none := by rfl) : PG X (.Tuple es k pos) (gTup K n t) := by
  subst hK
  exact pg_tup hc h hn hst
/-- x in xs, xs a tracked list -/
def rInL (neg : Bool) : R2 := fun x y H Q => ∃ p, y = .ref p ∧ ∃ xs, H p = some (.lst xs) ∧ flatV x = true ∧ xs.all flatV = true ∧ Q (.bl (if neg then !inV x xs else inV x xs)) H
theorem opR_imp {f : Value → Value → Sem Value} {r r' : R2} (h : OpR X f r) (i : ∀ x y H Q, r' x y H Q → r x y H Q) : OpR X f r' := fun pins s σ H x y v u Q I rx ry q => h pins s σ H x y v u Q I rx ry (i _ _ _ _ q)
theorem op_inL : OpR X (compareOp .In) (rInL false) := opR_imp op_in_seq fun _ _ _ _ ⟨p, e1, xs, e2, a, b, q⟩ => ⟨p, xs, e1, .inl (SqL.of e2), a, b, q⟩
theorem op_niL : OpR X (compareOp .NotIn) (rInL true) := opR_imp op_notIn_seq fun _ _ _ _ ⟨p, e1, xs, e2, a, b, q⟩ => ⟨p, xs, e1, .inl (SqL.of e2), a, b, q⟩
def rInT (neg : Bool) : R2 := fun x y H Q => ∃ p, y = .ref p ∧ ∃ xs, H p = some (.tup xs) ∧ flatV x = true ∧ xs.all flatV = true ∧ Q (.bl (if neg then !inV x xs else inV x xs)) H
theorem op_inT : OpR X (compareOp .In) (rInT false) := opR_imp op_in_seq fun _ _ _ _ ⟨p, e1, xs, e2, a, b, q⟩ => ⟨p, xs, e1, .inr (SqT.of e2), a, b, q⟩
/-- a list's method -/
def tLM (r : V → List V → Hp → VK → Prop) (to : TE) (t : TA) : TE := fun σ H Q => to σ H fun x H1 => (∃ l, x = .ref l ∧ ∃ xs, H1 l = some (.lst xs)) ∧ t σ H1 fun ys H2 => r x ys H2 Q
def tLM0 (r : V → List V → Hp → VK → Prop) (to : TE) : TE := fun σ H Q => to σ H fun x H1 => (∃ l, x = .ref l ∧ ∃ xs, H1 l = some (.lst xs)) ∧ r x [] H1 Q
theorem pe_imp {e : Expr} {t t' : TE} (h : PE X e t) (i : ∀ σ H Q, t' σ H Q → t σ H Q) : PE X e t' := ⟨fun pins s σ H Q I q => h.run pins s σ H Q I (i σ H Q q)⟩
section
variable {o e : Expr} {es : List Expr} {to : TE} {t : TA} {name : PySem.Str} {apos cpos : Pos} {id : String} {r : V → List V → Hp → VK → Prop}
theorem pe_lm0 (slot : Slot "list" name id) (hty : typeOf (.builtin id) = pure (.type "method_descriptor")) (hm : MtR X id r) (ho : PE X o to)
    (hb : attributeBase o name X.env (eval o X.env) = eval o X.env := by rfl) (hln : (apos.endLine == cpos.line) = true := by rfl) : PE X (.Call (.Attribute o name apos) [] [] cpos) (tLM0 r to) := by
  refine ⟨fun pins s σ H Q I h => ?_⟩
  refine wpAny_Call_method0_late hb hln (thn (ho.run pins s σ H _ I h) fun v s1 ⟨x, H1, I1, r1, ⟨l, e1, xs, e2⟩, q1⟩ => ?_)
  subst e1
  obtain ⟨h1, h2⟩ := tyV_is (T := "list") I1 r1 (.inl ⟨rfl, xs, SqL.of e2⟩)
  exact ⟨"list", id, F.plainAttrs_list, slot, hty, h1, h2, Calls.callWith_builtin rfl (PySem.evalArgs_none (hm pins s1 σ H1 (.ref l) [] v [] Q I1 r1 .nil q1))⟩
theorem pe_lm (slot : Slot "list" name id) (hty : typeOf (.builtin id) = pure (.type "method_descriptor")) (hm : MtR X id r) (ho : PE X o to) (ha : PA X (e :: es) t)
    (hb : attributeBase o name X.env (eval o X.env) = eval o X.env := by rfl)
    (hf : ((backTo cpos (starEach (e :: es) X.env)).all (fun x => !x.1) && (backToKw cpos (keywordEach [] X.env)).all (fun x => x.1.isSome) && decide ((e :: es).length + ([] : List Keyword).length + (if ([] : List Keyword).isEmpty then 0 else 1) < 30)) = true := by rfl)
    (hln : (apos.endLine == cpos.line) = true := by rfl) (hs : starEach (e :: es) X.env = (false, eval e X.env) :: starEach es X.env := by rfl) (hp : (backTo cpos (starEach es X.env)).any (·.1) = false := by rfl) :
    PE X (.Call (.Attribute o name apos) (e :: es) [] cpos) (tLM r to t) := by
  refine ⟨fun pins s σ H Q I h => ?_⟩
  refine wpAny_Call_method_late hb hf hln rfl (thn (ho.run pins s σ H _ I h) fun v s1 ⟨x, H1, I1, r1, ⟨l, e1, xs, e2⟩, q1⟩ => ?_)
  subst e1
  obtain ⟨h1, h2⟩ := tyV_is (T := "list") I1 r1 (.inl ⟨rfl, xs, SqL.of e2⟩)
  refine ⟨"list", id, F.plainAttrs_list, slot, hty, h1, h2, ?_⟩
  have hA := ha.run cpos pins s1 σ H1 _ I1 q1
  rw [hs] at hA ⊢
  refine Calls.callWith_builtin (by show (false || (backTo cpos (starEach es X.env)).any (·.1)) = false; rw [hp]; rfl) (Calls.evalArgs_plain (thn hA fun us s2 ⟨vs, H2, I2, r2, q2⟩ => hm pins s2 σ H2 (.ref l) vs v us Q I2 r1 r2 q2))
end
theorem mtR_imp {id : String} {r r' : V → List V → Hp → VK → Prop} (h : MtR X id r) (i : ∀ x ys H Q, r' x ys H Q → r x ys H Q) : MtR X id r' := fun pins s σ H x xs v us Q I rx rxs q => h pins s σ H x xs v us Q I rx rxs (i _ _ _ _ q)
/-- xs.index(y) of a tracked list of flat values, there -/
def rIdxL : V → List V → Hp → VK → Prop := fun x ys H Q => ∃ a, x = .ref a ∧ ∃ y, ys = [y] ∧ ∃ xs, H a = some (.lst xs) ∧ ∃ (j : Nat), (flatV y = true ∧ xs.all flatV = true ∧ (∃ z, xs[j]? = some z ∧ eqV z y = true) ∧ ∀ m z', m < j → xs[m]? = some z' → eqV z' y = false) ∧ Q (.int j) H
theorem mt_idxL : MtR X "list.index" rIdxL := mtR_imp mt_index fun _ _ _ _ ⟨a, e1, y, e2, xs, e3, j, ⟨f1, f2, ⟨z, h1, h2⟩, h3⟩, q⟩ => ⟨a, xs, y, j, z, e1, e2, SqL.of e3, f1, f2, h1, h2, h3, q⟩
def rAppL : V → List V → Hp → VK → Prop := fun x ys H Q => ∃ a, x = .ref a ∧ ∃ y, ys = [y] ∧ ∃ xs, H a = some (.lst xs) ∧ xs.length < sizeLine ∧ Q .non (upd H a (.lst (xs ++ [y])))
theorem mt_appL : MtR X "list.append" rAppL := mtR_imp mt_append fun _ _ _ _ ⟨a, e1, y, e2, xs, e3, hl, q⟩ => ⟨a, xs, y, e1, e2, e3, hl, q⟩
def rInsL : V → List V → Hp → VK → Prop := fun x ys H Q => ∃ a, x = .ref a ∧ ∃ i y, ys = [.int i, y] ∧ ∃ xs, H a = some (.lst xs) ∧ (xs.length < sizeLine ∧ 0 ≤ i ∧ i < 2 ^ 63) ∧ Q .non (upd H a (.lst (xs.take i.toNat ++ [y] ++ xs.drop i.toNat)))
theorem mt_insL : MtR X "list.insert" rInsL := mtR_imp mt_insert fun _ _ _ _ ⟨a, e1, i, y, e2, xs, e3, ⟨h1, h2, h3⟩, q⟩ => ⟨a, xs, i, y, e1, e2, e3, h1, h2, h3, q⟩
def rPopL : V → List V → Hp → VK → Prop := fun x ys H Q => ∃ a, x = .ref a ∧ ys = [] ∧ ∃ xs, H a = some (.lst xs) ∧ ∃ y, xs[xs.length - 1]? = some y ∧ Q y (upd H a (.lst xs.dropLast))
theorem mt_popL : MtR X "list.pop" rPopL := mtR_imp mt_pop fun _ _ _ _ ⟨a, e1, e2, xs, e3, y, hy, q⟩ => ⟨a, xs, y, e1, e2, e3, hy, q⟩
def rPopI : V → List V → Hp → VK → Prop := fun x ys H Q => ∃ a, x = .ref a ∧ ∃ i, ys = [.int i] ∧ ∃ xs, H a = some (.lst xs) ∧ ∃ k y, (-(2 ^ 63) ≤ i ∧ i < 2 ^ 63 ∧ seqIndex? i xs.length = some k ∧ xs[k]? = some y) ∧ Q y (upd H a (.lst (xs.eraseIdx k)))
theorem mt_popI : MtR X "list.pop" rPopI := mtR_imp mt_popAt fun _ _ _ _ ⟨a, e1, i, e2, xs, e3, k, y, ⟨h1, h2, h3, h4⟩, q⟩ => ⟨a, xs, i, k, y, e1, e2, e3, h1, h2, h3, h4, q⟩
def rRevL : V → List V → Hp → VK → Prop := fun x ys H Q => ∃ a, x = .ref a ∧ ys = [] ∧ ∃ xs, H a = some (.lst xs) ∧ Q .non (upd H a (.lst xs.reverse))
theorem mt_revL : MtR X "list.reverse" rRevL := mtR_imp mt_reverse fun _ _ _ _ ⟨a, e1, e2, xs, e3, q⟩ => ⟨a, xs, e1, e2, e3, q⟩
end
section
variable {σ : L2.St} {H : Hp} {Q : VK}
theorem u_lm {r : V → List V → Hp → VK → Prop} {to : TE} {t : TA} : tLM r to t σ H Q = to σ H fun x H1 => (∃ l, x = .ref l ∧ ∃ xs, H1 l = some (.lst xs)) ∧ t σ H1 fun ys H2 => r x ys H2 Q := rfl
theorem u_lm0 {r : V → List V → Hp → VK → Prop} {to : TE} : tLM0 r to σ H Q = to σ H fun x H1 => (∃ l, x = .ref l ∧ ∃ xs, H1 l = some (.lst xs)) ∧ r x [] H1 Q := rfl
theorem u_idxL {x : V} {ys : List V} : rIdxL x ys H Q = ∃ a, x = .ref a ∧ ∃ y, ys = [y] ∧ ∃ xs, H a = some (.lst xs) ∧ ∃ (j : Nat), (flatV y = true ∧ xs.all flatV = true ∧ (∃ z, xs[j]? = some z ∧ eqV z y = true) ∧ ∀ m z', m < j → xs[m]? = some z' → eqV z' y = false) ∧ Q (.int j) H := rfl
theorem u_appL {x : V} {ys : List V} : rAppL x ys H Q = ∃ a, x = .ref a ∧ ∃ y, ys = [y] ∧ ∃ xs, H a = some (.lst xs) ∧ xs.length < sizeLine ∧ Q .non (upd H a (.lst (xs ++ [y]))) := rfl
theorem u_popL {x : V} {ys : List V} : rPopL x ys H Q = ∃ a, x = .ref a ∧ ys = [] ∧ ∃ xs, H a = some (.lst xs) ∧ ∃ y, xs[xs.length - 1]? = some y ∧ Q y (upd H a (.lst xs.dropLast)) := rfl
theorem u_revL {x : V} {ys : List V} : rRevL x ys H Q = ∃ a, x = .ref a ∧ ys = [] ∧ ∃ xs, H a = some (.lst xs) ∧ Q .non (upd H a (.lst xs.reverse)) := rfl
theorem u_inL {x y : V} {neg : Bool} : rInL neg x y H Q = ∃ p, y = .ref p ∧ ∃ xs, H p = some (.lst xs) ∧ flatV x = true ∧ xs.all flatV = true ∧ Q (.bl (if neg then !inV x xs else inV x xs)) H := rfl
theorem u_inT {x y : V} {neg : Bool} : rInT neg x y H Q = ∃ p, y = .ref p ∧ ∃ xs, H p = some (.tup xs) ∧ flatV x = true ∧ xs.all flatV = true ∧ Q (.bl (if neg then !inV x xs else inV x xs)) H := rfl
theorem u_cat {x y : V} : rCat x y H Q = ∃ l, x = .ref l ∧ ∃ b, y = .ref b ∧ ∃ xs, H l = some (.lst xs) ∧ ∃ zs, H b = some (.lst zs) ∧ xs.length + zs.length ≤ sizeLine ∧ NewL H (xs ++ zs) Q := propext ⟨fun ⟨l, b, xs, zs, e1, e2, e3, e4, h⟩ => ⟨l, e1, b, e2, xs, e3, zs, e4, h⟩, fun ⟨l, e1, b, e2, xs, e3, zs, e4, h⟩ => ⟨l, b, xs, zs, e1, e2, e3, e4, h⟩⟩
theorem u_slL {x : V} {lo hi : Option Int} {K : PySem.W.Frag} : rSlL K x lo hi H Q = ∃ a, x = .ref a ∧ ∃ xs, SqL K H a xs ∧ NewL H (cutV xs lo hi) Q := propext ⟨fun ⟨a, xs, e1, h⟩ => ⟨a, e1, xs, h⟩, fun ⟨a, e1, xs, h⟩ => ⟨a, xs, e1, h⟩⟩
end
/-! ### what is new -/
theorem new_tup {H : Hp} {Q : VK} {ks : List NestedKey} {xs : List V} (r : Rps H ks xs) (hl : ks.length ≤ 1000000) (h : ∀ v H', Same H H' → Rp H' (.tup ks) v → Q v H') : NewTL H xs Q :=
  ⟨by rw [r.length, sizeLine_eq]; omega, fun p hp => h _ _ (same_new hp) ⟨p, xs, rfl, upd_same, r.up (same_new hp)⟩⟩
theorem new_tup1 {H : Hp} {Q : VK} {ks : List NestedKey} {xs : List V} (r : Rps H ks xs) (h : ∀ v H', Same H H' → Rp H' (.tup ks) v → Q v H') : NewT H xs Q :=
  fun p hp => h _ _ (same_new hp) ⟨p, xs, rfl, upd_same, r.up (same_new hp)⟩
theorem new_x {H : Hp} {Q : VK} {ks : List NestedKey} {xs : List V} (r : Rps H ks xs) (h : ∀ v H', Same H H' → Rp H' (.tup ks) v → Q v H') : NewX H xs Q :=
  fun p H' s e => h _ _ s ⟨p, xs, rfl, e, r.up s⟩
/-- .. of plain values -/
theorem new_tupV {H : Hp} {Q : VK} {xs : List V} (hl : xs.length ≤ 1000000) (h : ∀ p H', Same H H' → H' p = some (.tup xs) → Q (.ref p) H') : NewTL H xs Q :=
  ⟨by rw [sizeLine_eq]; omega, fun p hp => h _ _ (same_new hp) upd_same⟩
theorem new_tup1V {H : Hp} {Q : VK} {xs : List V} (h : ∀ p H', Same H H' → H' p = some (.tup xs) → Q (.ref p) H') : NewT H xs Q :=
  fun p hp => h _ _ (same_new hp) upd_same
theorem new_lst {H : Hp} {Q : VK} {xs : List V} (hl : xs.length ≤ 1000000) (h : ∀ p H', H p = none → Same H H' → H' p = some (.lst xs) → Q (.ref p) H') : NewLL H xs Q :=
  ⟨by rw [sizeLine_eq]; omega, fun p hp => h _ _ hp (same_new hp) upd_same⟩
theorem new_lst1 {H : Hp} {Q : VK} {xs : List V} (h : ∀ p H', H p = none → Same H H' → H' p = some (.lst xs) → Q (.ref p) H') : NewL H xs Q :=
  fun p hp => h _ _ hp (same_new hp) upd_same
end K59

/-! The plain law, part 2: joint types, their steps, parting. -/
namespace K59
def jt (c d : Ct) : Jt := (c.1, d.1, ranks (c.2 ++ d.2))
def jOne (m : Mc) (J : Jt) : Ct := (J.1, (shown J.2.2).take m.regs)
def jTwo (m : Mc) (J : Jt) : Ct := (J.2.1, (shown J.2.2).drop m.regs)
def jstep (m : Mc) (J : Jt) (t : Nat) (sp : Int) : Option Jt :=
  if (rd m (jOne m J) t sp).2 = (rd m (jTwo m J) t sp).2 then some (jt (rd m (jOne m J) t sp).1 (rd m (jTwo m J) t sp).1) else none
def spotOk (m : Mc) (J : Jt) (t : Nat) (sp : Int) : Prop := t < m.tags ∧ 0 ≤ sp ∧ sp ≤ 2 * (many J.2.2 : Int)
inductive Parts (m : Mc) : Jt → Prop
  | now {J : Jt} {t : Nat} {sp : Int} : spotOk m J t sp → jstep m J t sp = none → Parts m J
  | later {J J' : Jt} {t : Nat} {sp : Int} : spotOk m J t sp → jstep m J t sp = some J' → Parts m J' → Parts m J
/-- a joint type of a right machine -/
def okJ (m : Mc) (J : Jt) : Prop := J.1 < m.steps.length ∧ J.2.1 < m.steps.length ∧ J.2.2.length = 2 * m.regs ∧ ∀ r, some r ∈ J.2.2 → 0 ≤ r ∧ r < 4

theorem vals_append (a b : List OI) : vals (a ++ b) = vals a ++ vals b := by
  unfold vals
  rw [List.filterMap_append]
theorem mem_known {x : Int} {a b : List OI} (h : x ∈ vals a ∨ x ∈ vals b) : x ∈ kn (a ++ b) := by
  rw [mem_kn, List.mem_append]
  exact h.imp mem_vals.mp mem_vals.mp
theorem jOne_jt {m : Mc} {c d : Ct} (hc : c.2.length = m.regs) : jOne m (jt c d) = mapC (gk (kn (c.2 ++ d.2))) c := by
  unfold jOne jt mapC
  rw [shown_ranks, List.map_append, List.take_append_of_le_length (by rw [List.length_map, hc]; omega), List.take_of_length_le (by rw [List.length_map, hc]; omega)]
theorem jTwo_jt {m : Mc} {c d : Ct} (hc : c.2.length = m.regs) : jTwo m (jt c d) = mapC (gk (kn (c.2 ++ d.2))) d := by
  unfold jTwo jt mapC
  rw [shown_ranks, List.map_append, List.drop_append_of_le_length (by rw [List.length_map, hc]; omega), List.drop_eq_nil_of_le (by rw [List.length_map, hc]; omega), List.nil_append]
theorem mapA_iff {g : Int → Int} {l : List Int} (h : SM g l) {a b : An} (ha : ∀ p ∈ a, ∀ x, p.2 = some x → x ∈ l) (hb : ∀ p ∈ b, ∀ x, p.2 = some x → x ∈ l) : mapA g a = mapA g b ↔ a = b :=
  ⟨mapA_inj h ha hb, fun e => by rw [e]⟩
/-- two contents and any rising map of their values and the value that is read -/
theorem step_map {m : Mc} {c d : Ct} {g : Int → Int} (t : Nat) (v : Int) (h : SM g (v :: (vals c.2 ++ vals d.2))) :
    ((rd m (mapC g c) t (g v)).2 = (rd m (mapC g d) t (g v)).2 ↔ (rd m c t v).2 = (rd m d t v).2) ∧ jt (rd m (mapC g c) t (g v)).1 (rd m (mapC g d) t (g v)).1 = jt (rd m c t v).1 (rd m d t v).1 := by
  have hc : SM g (v :: vals c.2) := h.sub fun x hx => by
    rcases List.mem_cons.mp hx with e | hx
    · rw [e]
      exact List.mem_cons_self
    · exact List.mem_cons_of_mem _ (List.mem_append_left _ hx)
  have hd : SM g (v :: vals d.2) := h.sub fun x hx => by
    rcases List.mem_cons.mp hx with e | hx
    · rw [e]
      exact List.mem_cons_self
    · exact List.mem_cons_of_mem _ (List.mem_append_right _ hx)
  have inC : ∀ x, x ∈ v :: vals c.2 → x ∈ v :: (vals c.2 ++ vals d.2) := fun x hx => by
    rcases List.mem_cons.mp hx with e | hx
    · rw [e]
      exact List.mem_cons_self
    · exact List.mem_cons_of_mem _ (List.mem_append_left _ hx)
  have inD : ∀ x, x ∈ v :: vals d.2 → x ∈ v :: (vals c.2 ++ vals d.2) := fun x hx => by
    rcases List.mem_cons.mp hx with e | hx
    · rw [e]
      exact List.mem_cons_self
    · exact List.mem_cons_of_mem _ (List.mem_append_right _ hx)
  rw [rd_map m c t hc, rd_map m d t hd]
  refine ⟨mapA_iff h (fun p hp x hx => inC x (rd_says hp hx)) fun p hp x hx => inD x (rd_says hp hx), ?_⟩
  show (_, _, ranks (_ ++ _)) = (_, _, ranks (_ ++ _))
  have e : ranks ((mapC g (rd m c t v).1).2 ++ (mapC g (rd m d t v).1).2) = ranks ((rd m c t v).1.2 ++ (rd m d t v).1.2) := by
    show ranks ((rd m c t v).1.2.map (Option.map g) ++ (rd m d t v).1.2.map (Option.map g)) = _
    rw [← List.map_append]
    refine ranks_map (h.sub fun x hx => ?_)
    rw [vals_append] at hx
    rcases List.mem_append.mp hx with hx | hx
    · exact inC x (rd_vals hx)
    · exact inD x (rd_vals hx)
  rw [e]
  rfl
theorem jt_map {c d : Ct} {g : Int → Int} (h : SM g (vals c.2 ++ vals d.2)) : jt (mapC g c) (mapC g d) = jt c d := by
  unfold jt mapC
  rw [← List.map_append, ranks_map (by rw [vals_append]; exact h)]
/-- THE STEP of a joint type is the step of its contents -/
theorem jstep_sim {m : Mc} {c d : Ct} (hc : c.2.length = m.regs) (t : Nat) (v : Int) : jstep m (jt c d) t (gk (kn (c.2 ++ d.2)) v) = if (rd m c t v).2 = (rd m d t v).2 then some (jt (rd m c t v).1 (rd m d t v).1) else none := by
  have h : SM (gk (kn (c.2 ++ d.2))) (v :: (vals c.2 ++ vals d.2)) := (gk_SM (kn_sorted _) v).sub fun x hx => by
    rcases List.mem_cons.mp hx with e | hx
    · rw [e]
      exact List.mem_cons_self
    · exact List.mem_cons_of_mem _ (mem_known (List.mem_append.mp hx))
  obtain ⟨h1, h2⟩ := step_map (m := m) t v h
  unfold jstep
  rw [jOne_jt hc, jTwo_jt hc, h2]
  by_cases e : (rd m c t v).2 = (rd m d t v).2
  · rw [if_pos e, if_pos (h1.mpr e)]
  · rw [if_neg e, if_neg fun q => e (h1.mp q)]
theorem spot_ok {m : Mc} {c d : Ct} {t : Nat} (ht : t < m.tags) (v : Int) : spotOk m (jt c d) t (gk (kn (c.2 ++ d.2)) v) := by
  refine ⟨ht, gk_nn _ _, ?_⟩
  show _ ≤ 2 * (many (ranks (c.2 ++ d.2)) : Int)
  rw [many_ranks]
  exact gk_le _ _
/-- what never parts answers alike -/
theorem alike_of {m : Mc} (ok : okM m) : ∀ (log : List (Nat × Int)) (c d : Ct), okCt m c → okCt m d → (∀ p ∈ log, p.1 < m.tags) → ¬ Parts m (jt c d) → ans m c log = ans m d log
  | [], c, d, _, _, _, _ => by simp [ans]
  | (t, v) :: log, c, d, hc, hd, hl, h => by
    have ht : t < m.tags := hl _ List.mem_cons_self
    have e := jstep_sim (m := m) (c := c) (d := d) hc.2 t v
    have so := spot_ok (m := m) (c := c) (d := d) ht v
    by_cases q : (rd m c t v).2 = (rd m d t v).2
    · rw [if_pos q] at e
      have ih := alike_of ok log (rd m c t v).1 (rd m d t v).1 (rd_ok ok hc ht) (rd_ok ok hd ht) (fun p hp => hl p (List.mem_cons_of_mem _ hp)) fun z => h (.later so e z)
      show (rd m c t v).2 :: ans m (rd m c t v).1 log = (rd m d t v).2 :: ans m (rd m d t v).1 log
      rw [q, ih]
    · rw [if_neg q] at e
      exact absurd (Parts.now so e) h
/-! the two sides swapped -/
def sw (m : Mc) (J : Jt) : Jt := (J.2.1, J.1, J.2.2.drop m.regs ++ J.2.2.take m.regs)
theorem ranks_append (a b : List OI) : ranks (a ++ b) = a.map (Option.map fun v => (rk (kn (a ++ b)) v : Int)) ++ b.map (Option.map fun v => (rk (kn (a ++ b)) v : Int)) := by
  unfold ranks
  rw [List.map_append]
theorem sw_jt {m : Mc} {c d : Ct} (hc : c.2.length = m.regs) : sw m (jt c d) = jt d c := by
  unfold sw jt
  simp only
  rw [ranks_append c.2 d.2, ranks_append d.2 c.2, kn_comm d.2 c.2]
  rw [List.drop_append_of_le_length (by rw [List.length_map, hc]; omega), List.drop_eq_nil_of_le (by rw [List.length_map, hc]; omega), List.nil_append, List.take_append_of_le_length (by rw [List.length_map, hc]; omega), List.take_of_length_le (by rw [List.length_map, hc]; omega)]
theorem many_perm {a b : List OI} : many (a ++ b) = many (b ++ a) := by
  unfold many
  rw [kn_comm]
theorem jstep_sw {m : Mc} (ok : okM m) {J : Jt} (hJ : okJ m J) {t : Nat} (ht : t < m.tags) (sp : Int) : jstep m (sw m J) t sp = (jstep m J t sp).map (sw m) := by
  have hl := hJ.2.2.1
  have e1 : jOne m (sw m J) = jTwo m J := by
    unfold jOne jTwo sw shown
    simp only
    rw [List.map_append, List.take_append_of_le_length (by simp; omega), List.take_of_length_le (by simp; omega), List.map_drop]
  have e2 : jTwo m (sw m J) = jOne m J := by
    unfold jOne jTwo sw shown
    simp only
    rw [List.map_append, List.drop_append_of_le_length (by simp; omega), List.drop_eq_nil_of_le (by simp; omega), List.nil_append, List.map_take]
  have c1 : okCt m (jOne m J) := ⟨hJ.1, by unfold jOne; simp [shown_length]; omega⟩
  unfold jstep
  rw [e1, e2]
  by_cases q : (rd m (jOne m J) t sp).2 = (rd m (jTwo m J) t sp).2
  · rw [if_pos q, if_pos q.symm, Option.map_some, sw_jt (rd_ok ok c1 ht).2]
  · rw [if_neg q, if_neg fun z => q z.symm, Option.map_none]
theorem rank_bound {held : List OI} {r : Int} (h : some r ∈ ranks held) : 0 ≤ r ∧ r < (held.length : Int) := by
  unfold ranks at h
  obtain ⟨o, ho, e⟩ := List.mem_map.mp h
  cases o with
  | none => cases e
  | some v =>
    have e' : (rk (kn held) v : Int) = r := Option.some.inj e
    have h1 := rk_lt (mem_kn.mpr ho)
    have h2 := kn_length held
    omega
theorem okJ_jt {m : Mc} (ok : okM m) {c d : Ct} (hc : okCt m c) (hd : okCt m d) : okJ m (jt c d) := by
  refine ⟨hc.1, hd.1, ?_, fun r hr => ?_⟩
  · show (ranks _).length = _
    rw [ranks_length, List.length_append, hc.2, hd.2]
    omega
  · have h := rank_bound hr
    rw [List.length_append, hc.2, hd.2] at h
    have := ok.r2
    omega
theorem okCt_one {m : Mc} {J : Jt} (h : okJ m J) : okCt m (jOne m J) := ⟨h.1, by have := h.2.2.1; unfold jOne; simp [shown_length]; omega⟩
theorem okCt_two {m : Mc} {J : Jt} (h : okJ m J) : okCt m (jTwo m J) := ⟨h.2.1, by have := h.2.2.1; unfold jTwo; simp [shown_length]; omega⟩
theorem jstep_ok {m : Mc} (ok : okM m) {J J' : Jt} (h : okJ m J) {t : Nat} (ht : t < m.tags) {sp : Int} (e : jstep m J t sp = some J') : okJ m J' := by
  unfold jstep at e
  split at e
  · cases e
    exact okJ_jt ok (rd_ok ok (okCt_one h) ht) (rd_ok ok (okCt_two h) ht)
  · cases e
theorem parts_sw {m : Mc} (ok : okM m) {J : Jt} (h : Parts m J) : okJ m J → Parts m (sw m J) := by
  have many_sw : ∀ J : Jt, okJ m J → many (sw m J).2.2 = many J.2.2 := fun J hJ => by
    show many (J.2.2.drop m.regs ++ J.2.2.take m.regs) = _
    rw [many_perm, List.take_append_drop]
  induction h with
  | @now J t sp so e =>
    intro hJ
    refine .now (t := t) (sp := sp) ⟨so.1, so.2.1, ?_⟩ ?_
    · rw [many_sw J hJ]
      exact so.2.2
    · rw [jstep_sw ok hJ so.1, e]
      rfl
  | @later J J' t sp so e _ ih =>
    intro hJ
    refine .later (t := t) (sp := sp) (J' := sw m J') ⟨so.1, so.2.1, ?_⟩ ?_ (ih (jstep_ok ok hJ so.1 e))
    · rw [many_sw J hJ]
      exact so.2.2
    · rw [jstep_sw ok hJ so.1, e]
      rfl
theorem parts_swap {m : Mc} (ok : okM m) {c d : Ct} (hc : okCt m c) (hd : okCt m d) : Parts m (jt c d) ↔ Parts m (jt d c) := by
  constructor
  · intro h
    rw [← sw_jt hc.2]
    exact parts_sw ok h (okJ_jt ok hc hd)
  · intro h
    rw [← sw_jt hd.2]
    exact parts_sw ok h (okJ_jt ok hd hc)
/-! a closed set of joint types never parts -/
theorem closed_never {m : Mc} {W : List Jt} (h : ∀ J ∈ W, ¬ Parts m J ∨ ∀ t sp, spotOk m J t sp → ∃ J' ∈ W, jstep m J t sp = some J') {J : Jt} (p : Parts m J) : J ∉ W := by
  induction p with
  | @now J t sp so e =>
    intro hJ
    rcases h J hJ with q | q
    · exact q (.now so e)
    · obtain ⟨J', _, e'⟩ := q t sp so
      rw [e] at e'
      cases e'
  | @later J J' t sp so e p ih =>
    intro hJ
    rcases h J hJ with q | q
    · exact q (.later so e p)
    · obtain ⟨J2, h2, e'⟩ := q t sp so
      rw [e] at e'
      cases e'
      exact ih h2
/-! there are few joint types -/
def codeO : OI → Nat
  | none => 0
  | some r => r.toNat + 1
def codeL : List OI → Nat
  | [] => 0
  | o :: l => codeO o + 5 * codeL l
def codeJ (J : Jt) : Nat := J.1 + 3 * (J.2.1 + 3 * codeL J.2.2)
theorem codeO_inj {a b : OI} (ha : ∀ r, a = some r → 0 ≤ r) (hb : ∀ r, b = some r → 0 ≤ r) (h : codeO a = codeO b) : a = b := by
  cases a with
  | none => cases b with
    | none => rfl
    | some y =>
      simp only [codeO] at h
      omega
  | some x => cases b with
    | none =>
      simp only [codeO] at h
      omega
    | some y =>
      have h1 := ha x rfl
      have h2 := hb y rfl
      simp only [codeO] at h
      have : x = y := by omega
      rw [this]
theorem codeO_lt {a : OI} (ha : ∀ r, a = some r → 0 ≤ r ∧ r < 4) : codeO a < 5 := by
  cases a with
  | none => simp [codeO]
  | some x =>
    have := ha x rfl
    simp only [codeO]
    omega
theorem codeL_inj : ∀ {a b : List OI}, a.length = b.length → (∀ r, some r ∈ a → 0 ≤ r ∧ r < 4) → (∀ r, some r ∈ b → 0 ≤ r ∧ r < 4) → codeL a = codeL b → a = b
  | [], [], _, _, _, _ => rfl
  | [], _ :: _, h, _, _, _ => by cases h
  | _ :: _, [], h, _, _, _ => by cases h
  | x :: a, y :: b, hl, ha, hb, h => by
    have hx := codeO_lt (a := x) fun r e => ha r (by rw [e]; exact List.mem_cons_self)
    have hy := codeO_lt (a := y) fun r e => hb r (by rw [e]; exact List.mem_cons_self)
    unfold codeL at h
    have e1 : codeO x = codeO y := by omega
    have e2 : codeL a = codeL b := by omega
    have e3 := codeO_inj (a := x) (b := y) (fun r e => (ha r (by rw [e]; exact List.mem_cons_self)).1) (fun r e => (hb r (by rw [e]; exact List.mem_cons_self)).1) e1
    have e4 := codeL_inj (a := a) (b := b) (by simpa using hl) (fun r hr => ha r (List.mem_cons_of_mem _ hr)) (fun r hr => hb r (List.mem_cons_of_mem _ hr)) e2
    rw [e3, e4]
theorem codeL_lt : ∀ {a : List OI}, (∀ r, some r ∈ a → 0 ≤ r ∧ r < 4) → codeL a < 5 ^ a.length
  | [], _ => by simp [codeL]
  | x :: a, ha => by
    have hx := codeO_lt (a := x) fun r e => ha r (by rw [e]; exact List.mem_cons_self)
    have ih := codeL_lt (a := a) fun r hr => ha r (List.mem_cons_of_mem _ hr)
    unfold codeL
    rw [List.length_cons, Nat.pow_succ]
    omega
theorem nodup_lt : ∀ (n : Nat) (l : List Nat), l.Nodup → (∀ x ∈ l, x < n) → l.length ≤ n
  | 0, [], _, _ => Nat.le_refl 0
  | 0, x :: _, _, h => absurd (h x List.mem_cons_self) (Nat.not_lt_zero x)
  | n + 1, l, hd, h => by
    have ih := nodup_lt n (l.filter fun x => decide (x ≠ n)) (hd.filter _) fun x hx => by
      have h1 := List.mem_filter.mp hx
      have h2 := h x h1.1
      have h3 : x ≠ n := by simpa using h1.2
      omega
    have hc : l.length = (l.filter fun x => decide (x ≠ n)).length + l.count n := by
      rw [List.length_eq_countP_add_countP (fun x => decide (x ≠ n)), List.countP_eq_length_filter, List.count]
      congr 1
      refine List.countP_congr fun x _ => ?_
      by_cases e : x = n <;> simp [e]
    have := List.nodup_iff_count.mp hd n
    omega
theorem few {m : Mc} (ok : okM m) {W : List Jt} (hd : W.Nodup) (h : ∀ J ∈ W, okJ m J) : W.length ≤ 5625 := by
  have inj : ∀ J ∈ W, ∀ J' ∈ W, codeJ J = codeJ J' → J = J' := fun J hJ J' hJ' e => by
    obtain ⟨a1, a2, a3, a4⟩ := h J hJ
    obtain ⟨b1, b2, b3, b4⟩ := h J' hJ'
    have := ok.s3
    unfold codeJ at e
    have e1 : J.1 = J'.1 := by omega
    have e2 : J.2.1 = J'.2.1 := by omega
    have e3 : codeL J.2.2 = codeL J'.2.2 := by omega
    have e4 := codeL_inj (a3.trans b3.symm) a4 b4 e3
    exact Prod.ext e1 (Prod.ext e2 e4)
  have nd : (W.map codeJ).Nodup := by
    refine (List.pairwise_map.mpr ?_)
    refine List.Pairwise.imp_of_mem (fun ha hb hne e => hne (inj _ ha _ hb e)) hd
  have := nodup_lt 5625 (W.map codeJ) nd fun x hx => by
    obtain ⟨J, hJ, rfl⟩ := List.mem_map.mp hx
    obtain ⟨a1, a2, a3, a4⟩ := h J hJ
    have h1 := codeL_lt a4
    have := ok.s3
    have := ok.r2
    have h2 : 5 ^ J.2.2.length ≤ 5 ^ 4 := Nat.pow_le_pow_right (by omega) (by omega)
    have h3 : (5 : Nat) ^ 4 = 625 := by decide
    unfold codeJ
    omega
  rwa [List.length_map] at this
end K59

/-! The plain law, part 3: the log that the law builds. -/
namespace K59
abbrev Pth := List (Nat × Int)
def Rch (m : Mc) : Jt → Pth → Jt → Prop
  | J, [], K => J = K
  | J, (t, sp) :: r, K => spotOk m J t sp ∧ ∃ J', jstep m J t sp = some J' ∧ Rch m J' r K
def Fol (m : Mc) : Jt → Pth → Prop
  | _, [] => False
  | J, (t, sp) :: r => spotOk m J t sp ∧ ((r = [] ∧ jstep m J t sp = none) ∨ ∃ J', jstep m J t sp = some J' ∧ Fol m J' r)
/-! positions in an order of items -/
def pos (o : List Int) (x : Int) : Int := (o.idxOf x : Nat)
def itm (o : List Int) (i : Int) : Int := o.getD i.toNat 0
theorem itm_pos {o : List Int} {x : Int} (h : x ∈ o) : itm o (pos o x) = x := by
  unfold itm pos
  rw [Int.toNat_natCast, List.getD_eq_getElem?_getD, List.getElem?_eq_getElem (List.idxOf_lt_length_iff.mpr h), Option.getD_some, List.getElem_idxOf]
theorem pos_lt {o : List Int} {x : Int} (h : x ∈ o) : 0 ≤ pos o x ∧ pos o x < o.length := by
  have := List.idxOf_lt_length_iff.mpr h
  unfold pos
  omega
theorem pos_itm {o : List Int} (hd : o.Nodup) {i : Int} (h0 : 0 ≤ i) (h1 : i < o.length) : pos o (itm o i) = i := by
  obtain ⟨n, rfl⟩ : ∃ n : Nat, i = n := ⟨i.toNat, by omega⟩
  have hn : n < o.length := by omega
  unfold itm pos
  rw [Int.toNat_natCast, List.getD_eq_getElem?_getD, List.getElem?_eq_getElem hn, Option.getD_some, hd.idxOf_getElem n hn]
theorem itm_mem {o : List Int} {i : Int} (h0 : 0 ≤ i) (h1 : i < o.length) : itm o i ∈ o := by
  obtain ⟨n, rfl⟩ : ∃ n : Nat, i = n := ⟨i.toNat, by omega⟩
  have hn : n < o.length := by omega
  unfold itm
  rw [Int.toNat_natCast, List.getD_eq_getElem?_getD, List.getElem?_eq_getElem hn, Option.getD_some]
  exact List.getElem_mem hn
theorem itm_nat {o : List Int} {n : Nat} (hn : n < o.length) : itm o (n : Int) = o[n] := by
  unfold itm
  rw [Int.toNat_natCast, List.getD_eq_getElem?_getD, List.getElem?_eq_getElem hn, Option.getD_some]
theorem pos_inj {o : List Int} {x y : Int} (hx : x ∈ o) (hy : y ∈ o) (h : pos o x = pos o y) : x = y := by
  rw [← itm_pos hx, ← itm_pos hy, h]
theorem mapC_comp (g f : Int → Int) (c : Ct) : mapC g (mapC f c) = mapC (fun x => g (f x)) c := by
  unfold mapC
  simp only [List.map_map]
  congr 1
  refine List.map_congr_left fun o _ => ?_
  cases o <;> rfl
theorem mapC_congr {g f : Int → Int} {c : Ct} (h : ∀ x ∈ vals c.2, g x = f x) : mapC g c = mapC f c := by
  unfold mapC
  congr 1
  refine List.map_congr_left fun o ho => ?_
  cases o with
  | none => rfl
  | some x =>
    show some (g x) = some (f x)
    rw [h x (mem_vals.mpr ho)]
theorem vals_mapC {g : Int → Int} {c : Ct} {y : Int} (h : y ∈ vals (mapC g c).2) : ∃ x ∈ vals c.2, y = g x := by
  obtain ⟨o, ho, e⟩ := List.mem_map.mp (mem_vals.mp h)
  cases o with
  | none => cases e
  | some x => exact ⟨x, mem_vals.mpr ho, (Option.some.inj e).symm⟩
theorem mem_mapC {g : Int → Int} {c : Ct} {x : Int} (h : x ∈ vals c.2) : g x ∈ vals (mapC g c).2 :=
  mem_vals.mpr (List.mem_map.mpr ⟨some x, mem_vals.mp h, rfl⟩)
/-- a numbering that rises along the order, seen from the positions -/
theorem rise_SM {num : Int → Int} {o : List Int} (h : (o.map num).Pairwise (· < ·)) {l : List Int} (hl : ∀ i ∈ l, 0 ≤ i ∧ i < o.length) : SM (fun i => num (itm o i)) l := by
  intro a ha b hb hab
  obtain ⟨a0, a1⟩ := hl a ha
  obtain ⟨b0, b1⟩ := hl b hb
  obtain ⟨n, rfl⟩ : ∃ n : Nat, a = n := ⟨a.toNat, by omega⟩
  obtain ⟨k, rfl⟩ : ∃ n : Nat, b = n := ⟨b.toNat, by omega⟩
  have hn : n < o.length := by omega
  have hk : k < o.length := by omega
  have := List.pairwise_iff_getElem.mp h n k (by rw [List.length_map]; exact hn) (by rw [List.length_map]; exact hk) (by omega)
  rw [List.getElem_map, List.getElem_map] at this
  show num (itm o n) < num (itm o k)
  rw [itm_nat hn, itm_nat hk]
  exact this
theorem pos_rise {o : List Int} (hd : o.Nodup) : (o.map (pos o)).Pairwise (· < ·) := by
  rw [List.pairwise_iff_getElem]
  intro i j hi hj hij
  rw [List.length_map] at hi hj
  rw [List.getElem_map, List.getElem_map]
  unfold pos
  rw [hd.idxOf_getElem i hi, hd.idxOf_getElem j hj]
  omega
/-! one step of the law's loop -/
structure St where
  o : List Int
  c : Ct
  d : Ct
  log : List (Nat × Int)
def nowL (s : St) : List Int := s.o.filter fun x => decide (some x ∈ s.c.2) || decide (some x ∈ s.d.2)
def pickO (s : St) (sp : Int) : Nat := if 0 < sp then s.o.idxOf ((nowL s).getD (sp / 2 - 1).toNat 0) + 1 else 0
def pickI (s : St) (sp : Int) : Int := if sp % 2 = 1 then (nowL s).getD (sp / 2).toNat 0 else s.o.length
def ordI (s : St) (sp : Int) : List Int := if sp % 2 = 1 then s.o else s.o.take (pickO s sp) ++ [(s.o.length : Int)] ++ s.o.drop (pickO s sp)
def adv (m : Mc) (o : List Int) (c : Ct) (t : Nat) (it : Int) : Ct := mapC (itm o) (rd m (mapC (pos o) c) t (pos o it)).1
def stp (m : Mc) (s : St) (q : Nat × Int) : St :=
  ⟨ordI s q.2, adv m (ordI s q.2) s.c q.1 (pickI s q.2), adv m (ordI s q.2) s.d q.1 (pickI s q.2), s.log ++ [(q.1, pickI s q.2)]⟩
/-- what the loop keeps -/
structure Good (m : Mc) (s : St) : Prop where
  nd : s.o.Nodup
  sm : ∀ x ∈ s.o, x < s.o.length
  ic : ∀ x ∈ vals s.c.2, x ∈ s.o
  id : ∀ x ∈ vals s.d.2, x ∈ s.o
  oc : okCt m s.c
  od : okCt m s.d
def jts (s : St) : Jt := jt (mapC (pos s.o) s.c) (mapC (pos s.o) s.d)
theorem ord_sub (s : St) (sp : Int) : s.o.Sublist (ordI s sp) := by
  unfold ordI
  split
  · exact List.Sublist.refl _
  · have e : s.o = s.o.take (pickO s sp) ++ s.o.drop (pickO s sp) := (List.take_append_drop _ _).symm
    have h : (s.o.take (pickO s sp) ++ s.o.drop (pickO s sp)).Sublist (s.o.take (pickO s sp) ++ [(s.o.length : Int)] ++ s.o.drop (pickO s sp)) :=
      List.Sublist.append (List.sublist_append_left _ _) (List.Sublist.refl _)
    rwa [← e] at h
theorem ord_mem {s : St} {sp x : Int} (h : x ∈ ordI s sp) : x ∈ s.o ∨ x = s.o.length := by
  unfold ordI at h
  split at h
  · exact .inl h
  · rw [List.mem_append, List.mem_append, List.mem_singleton] at h
    rcases h with (h | h) | h
    · exact .inl (List.mem_of_mem_take h)
    · exact .inr h
    · exact .inl (List.mem_of_mem_drop h)
theorem ord_len (s : St) (sp : Int) : (ordI s sp).length = if sp % 2 = 1 then s.o.length else s.o.length + 1 := by
  unfold ordI
  split
  · rfl
  · simp only [List.length_append, List.length_take, List.length_drop, List.length_cons, List.length_nil]
    omega
theorem ord_nodup {m : Mc} {s : St} (g : Good m s) (sp : Int) : (ordI s sp).Nodup := by
  unfold ordI
  split
  · exact g.nd
  · have hn : (s.o.length : Int) ∉ s.o := fun h => Int.lt_irrefl _ (g.sm _ h)
    have e : (s.o.take (pickO s sp) ++ [(s.o.length : Int)] ++ s.o.drop (pickO s sp)).Perm ((s.o.length : Int) :: (s.o.take (pickO s sp) ++ s.o.drop (pickO s sp))) := by
      rw [List.append_assoc]
      exact List.perm_middle
    rw [e.nodup_iff, List.take_append_drop]
    exact List.nodup_cons.mpr ⟨hn, g.nd⟩
theorem ord_sm {m : Mc} {s : St} (g : Good m s) (sp : Int) : ∀ x ∈ ordI s sp, x < (ordI s sp).length := by
  intro x hx
  have hl := ord_len s sp
  have hle : s.o.length ≤ (ordI s sp).length := (ord_sub s sp).length_le
  rcases ord_mem hx with h | h
  · have := g.sm x h
    omega
  · unfold ordI at hx
    by_cases hs : sp % 2 = 1
    · rw [if_pos hs] at hx
      have := g.sm x hx
      omega
    · rw [if_neg hs] at hl
      omega
theorem now_mem {m : Mc} {s : St} (g : Good m s) {x : Int} : x ∈ nowL s ↔ x ∈ vals s.c.2 ∨ x ∈ vals s.d.2 := by
  unfold nowL
  rw [List.mem_filter, Bool.or_eq_true, decide_eq_true_iff, decide_eq_true_iff, mem_vals, mem_vals]
  refine ⟨fun h => h.2, fun h => ⟨?_, h⟩⟩
  rcases h with h | h
  · exact g.ic x (mem_vals.mpr h)
  · exact g.id x (mem_vals.mpr h)
theorem now_sub (s : St) : (nowL s).Sublist s.o := List.filter_sublist
theorem now_o {s : St} {x : Int} (h : x ∈ nowL s) : x ∈ s.o := (now_sub s).subset h
/-- the held values' positions -/
theorem kn_now {m : Mc} {s : St} (g : Good m s) {o' : List Int} (hs : s.o.Sublist o') (hd : o'.Nodup) : kn ((mapC (pos o') s.c).2 ++ (mapC (pos o') s.d).2) = (nowL s).map (pos o') := by
  refine (kn_of ?_ fun y => ?_).symm
  · exact (pos_rise hd).sublist (((now_sub s).trans hs).map _)
  · rw [List.mem_append, ← mem_vals, ← mem_vals, List.mem_map]
    constructor
    · rintro ⟨x, hx, rfl⟩
      rcases (now_mem g).mp hx with h | h
      · exact .inl (mem_mapC h)
      · exact .inr (mem_mapC h)
    · rintro (h | h)
      · obtain ⟨x, hx, e⟩ := vals_mapC h
        exact ⟨x, (now_mem g).mpr (.inl hx), e.symm⟩
      · obtain ⟨x, hx, e⟩ := vals_mapC h
        exact ⟨x, (now_mem g).mpr (.inr hx), e.symm⟩
theorem mapC_via {o : List Int} {g : Int → Int} {c : Ct} (h : ∀ x ∈ vals c.2, x ∈ o) : mapC g c = mapC (fun i => g (itm o i)) (mapC (pos o) c) := by
  rw [mapC_comp]
  refine mapC_congr fun x hx => ?_
  rw [itm_pos (h x hx)]
theorem vals_pos {o : List Int} {c : Ct} (h : ∀ x ∈ vals c.2, x ∈ o) : ∀ i ∈ vals (mapC (pos o) c).2, 0 ≤ i ∧ i < o.length := by
  intro i hi
  obtain ⟨x, hx, rfl⟩ := vals_mapC hi
  exact pos_lt (h x hx)
theorem jts_up {m : Mc} {s : St} (g : Good m s) {o' : List Int} (hs : s.o.Sublist o') (hd : o'.Nodup) : jt (mapC (pos o') s.c) (mapC (pos o') s.d) = jts s := by
  unfold jts
  rw [mapC_via (g := pos o') g.ic, mapC_via (g := pos o') g.id]
  refine jt_map (rise_SM ((pos_rise hd).sublist (hs.map _)) fun i hi => ?_)
  rcases List.mem_append.mp hi with h | h
  · exact vals_pos g.ic i h
  · exact vals_pos g.id i h
theorem jts_many {m : Mc} {s : St} (g : Good m s) : many (jts s).2.2 = (nowL s).length := by
  show many (ranks _) = _
  rw [many_ranks, kn_now g (List.Sublist.refl _) g.nd, List.length_map]
/-! the spot of an item -/
theorem count_take {ks : List Int} {p : Int → Bool} {j : Nat} (h1 : ∀ i (hi : i < ks.length), i < j → p ks[i] = true) (h2 : ∀ i (hi : i < ks.length), j ≤ i → p ks[i] = false) (hj : j ≤ ks.length) : ks.countP p = j := by
  have e : ks.countP p = (ks.take j ++ ks.drop j).countP p := by rw [List.take_append_drop]
  have a : (ks.take j).countP p = (ks.take j).length := List.countP_eq_length.mpr fun x hx => by
    obtain ⟨i, hi, rfl⟩ := List.mem_iff_getElem.mp hx
    rw [List.length_take] at hi
    rw [List.getElem_take]
    exact h1 i (by omega) (by omega)
  have b : (ks.drop j).countP p = 0 := List.countP_eq_zero.mpr fun x hx => by
    obtain ⟨i, hi, rfl⟩ := List.mem_iff_getElem.mp hx
    rw [List.length_drop] at hi
    rw [List.getElem_drop, h2 (j + i) (by omega) (by omega)]
    exact Bool.false_ne_true
  rw [e, List.countP_append, a, b, List.length_take]
  omega
theorem gk_gap {ks : List Int} {a : Int} {j : Nat} (h1 : ∀ i (hi : i < ks.length), i < j → ks[i] < a) (h2 : ∀ i (hi : i < ks.length), j ≤ i → a < ks[i]) (hj : j ≤ ks.length) : gk ks a = 2 * (j : Int) := by
  have e1 : rk ks a = j := count_take (fun i hi h => decide_eq_true (h1 i hi h)) (fun i hi h => decide_eq_false (by have := h2 i hi h; omega)) hj
  have e2 : rl ks a = j := count_take (fun i hi h => decide_eq_true (by have := h1 i hi h; omega)) (fun i hi h => decide_eq_false (by have := h2 i hi h; omega)) hj
  unfold gk
  rw [e1, e2]
  omega
theorem idxA_no {a b : List Int} {x : Int} (h : x ∉ a) : (a ++ b).idxOf x = a.length + b.idxOf x := by
  rw [List.idxOf_append, if_neg h, Nat.add_comm]
theorem idxA_in {a b : List Int} {x : Int} (h : x ∈ a) : (a ++ b).idxOf x = a.idxOf x := by
  rw [List.idxOf_append, if_pos h]
theorem idxC_ne {a x : Int} {b : List Int} (h : a ≠ x) : (a :: b).idxOf x = b.idxOf x + 1 := by
  rw [List.idxOf_cons, beq_eq_false_iff_ne.mpr h]
  rfl
theorem idx_ins {o : List Int} {it : Int} {a : Nat} (ha : a ≤ o.length) (hn : it ∉ o) : (o.take a ++ [it] ++ o.drop a).idxOf it = a := by
  rw [List.append_assoc, idxA_no fun h => hn (List.mem_of_mem_take h), List.singleton_append, List.idxOf_cons_self, List.length_take]
  omega
theorem idx_ins_lt {o : List Int} {it x : Int} {a : Nat} (hx : x ∈ o) (h : o.idxOf x < a) : (o.take a ++ [it] ++ o.drop a).idxOf x = o.idxOf x := by
  have hl := List.idxOf_lt_length_iff.mpr hx
  have hm : x ∈ o.take a := by
    rw [List.mem_take_iff_getElem]
    exact ⟨o.idxOf x, by omega, List.getElem_idxOf hl⟩
  rw [List.append_assoc, idxA_in hm]
  have e : o.idxOf x = (o.take a ++ o.drop a).idxOf x := by rw [List.take_append_drop]
  rw [e, idxA_in hm]
theorem idx_ins_ge {o : List Int} {it x : Int} {a : Nat} (hd : o.Nodup) (hx : x ∈ o) (hne : it ≠ x) (h : a ≤ o.idxOf x) : (o.take a ++ [it] ++ o.drop a).idxOf x = o.idxOf x + 1 := by
  have hl := List.idxOf_lt_length_iff.mpr hx
  have hm : x ∉ o.take a := fun q => by
    obtain ⟨i, hi, e⟩ := List.mem_take_iff_getElem.mp q
    have := hd.idxOf_getElem i (by omega)
    rw [e] at this
    omega
  rw [List.append_assoc, idxA_no hm, List.singleton_append, idxC_ne hne]
  have e : o.idxOf x = (o.take a ++ o.drop a).idxOf x := by rw [List.take_append_drop]
  rw [e, idxA_no hm]
  omega
theorem jts_spot {m : Mc} {s : St} (g : Good m s) {t : Nat} {sp : Int} (so : spotOk m (jts s) t sp) : 0 ≤ sp ∧ sp ≤ 2 * ((nowL s).length : Int) := by
  obtain ⟨_, h1, h2⟩ := so
  rw [jts_many g] at h2
  exact ⟨h1, h2⟩
theorem now_rise {m : Mc} {s : St} (g : Good m s) : ((nowL s).map (pos s.o)).Pairwise (· < ·) := (pos_rise g.nd).sublist ((now_sub s).map _)
theorem now_idx {m : Mc} {s : St} (g : Good m s) {i j : Nat} (hj : j < (nowL s).length) (h : i < j) : s.o.idxOf ((nowL s)[i]'(by omega)) < s.o.idxOf (nowL s)[j] := by
  have := List.pairwise_iff_getElem.mp (now_rise g) i j (by rw [List.length_map]; omega) (by rw [List.length_map]; omega) h
  rw [List.getElem_map, List.getElem_map] at this
  unfold pos at this
  omega
theorem pickO_le {m : Mc} {s : St} (g : Good m s) {sp : Int} (h1 : sp ≤ 2 * ((nowL s).length : Int)) : pickO s sp ≤ s.o.length := by
  unfold pickO
  split
  · have hl : (sp / 2 - 1).toNat < (nowL s).length := by omega
    rw [List.getD_eq_getElem?_getD, List.getElem?_eq_getElem hl, Option.getD_some]
    exact List.idxOf_lt_length_iff.mpr (now_o (List.getElem_mem hl))
  · exact Nat.zero_le _
theorem new_not {m : Mc} {s : St} (g : Good m s) : (s.o.length : Int) ∉ s.o := fun h => Int.lt_irrefl _ (g.sm _ h)
theorem pick_mem {m : Mc} {s : St} (g : Good m s) {sp : Int} (h0 : 0 ≤ sp) (h1 : sp ≤ 2 * ((nowL s).length : Int)) : pickI s sp ∈ ordI s sp := by
  unfold pickI ordI
  by_cases hs : sp % 2 = 1
  · rw [if_pos hs, if_pos hs]
    have hl : (sp / 2).toNat < (nowL s).length := by omega
    rw [List.getD_eq_getElem?_getD, List.getElem?_eq_getElem hl, Option.getD_some]
    exact now_o (List.getElem_mem hl)
  · rw [if_neg hs, if_neg hs]
    simp
theorem spot_gk {m : Mc} {s : St} (g : Good m s) {sp : Int} (h0 : 0 ≤ sp) (h1 : sp ≤ 2 * ((nowL s).length : Int)) :
    gk (kn ((mapC (pos (ordI s sp)) s.c).2 ++ (mapC (pos (ordI s sp)) s.d).2)) (pos (ordI s sp) (pickI s sp)) = sp := by
  rw [kn_now g (ord_sub s sp) (ord_nodup g sp)]
  by_cases hs : sp % 2 = 1
  · have eo : ordI s sp = s.o := by
      unfold ordI
      rw [if_pos hs]
    have hl : (sp / 2).toNat < (nowL s).length := by omega
    have ei : pickI s sp = (nowL s)[(sp / 2).toNat] := by
      unfold pickI
      rw [if_pos hs, List.getD_eq_getElem?_getD, List.getElem?_eq_getElem hl, Option.getD_some]
    rw [eo, ei]
    rw [gk_mem (now_rise g) (List.mem_map_of_mem (List.getElem_mem hl)), rk_at (j := (sp / 2).toNat) (now_rise g) (by rw [List.getElem?_map, List.getElem?_eq_getElem hl]; rfl)]
    omega
  · have eo : ordI s sp = s.o.take (pickO s sp) ++ [(s.o.length : Int)] ++ s.o.drop (pickO s sp) := by
      unfold ordI
      rw [if_neg hs]
    have ei : pickI s sp = s.o.length := by
      unfold pickI
      rw [if_neg hs]
    have hp := pickO_le g h1
    have ea : pos (ordI s sp) (pickI s sp) = pickO s sp := by
      unfold pos
      rw [eo, ei, idx_ins hp (new_not g)]
    obtain ⟨j, hj⟩ : ∃ j : Nat, sp = 2 * (j : Int) := ⟨(sp / 2).toNat, by omega⟩
    have hO : ∀ hj0 : 0 < j, ∀ hl : j - 1 < (nowL s).length, pickO s sp = s.o.idxOf (nowL s)[j - 1] + 1 := fun hj0 hl => by
      unfold pickO
      rw [if_pos (by omega), show (sp / 2 - 1).toNat = j - 1 by omega, List.getD_eq_getElem?_getD, List.getElem?_eq_getElem hl, Option.getD_some]
    have hO0 : j = 0 → pickO s sp = 0 := fun h => by
      unfold pickO
      rw [if_neg (by omega)]
    have lo : ∀ x, x ∈ s.o → s.o.idxOf x < pickO s sp → pos (ordI s sp) x < pickO s sp := fun x hm h => by
      unfold pos
      rw [eo, idx_ins_lt hm h]
      omega
    have up : ∀ x, x ∈ s.o → pickO s sp ≤ s.o.idxOf x → (pickO s sp : Int) < pos (ordI s sp) x := fun x hm h => by
      unfold pos
      rw [eo, idx_ins_ge g.nd hm (fun e => new_not g (by rw [e]; exact hm)) h]
      omega
    rw [ea]
    refine (gk_gap (j := j) (fun i hi hij => ?_) (fun i hi hij => ?_) (by rw [List.length_map]; omega)).trans hj.symm
    · rw [List.length_map] at hi
      rw [List.getElem_map]
      have hm := now_o (List.getElem_mem hi)
      have hl : j - 1 < (nowL s).length := by omega
      have hlt : s.o.idxOf (nowL s)[i] < pickO s sp := by
        rw [hO (by omega) hl]
        rcases Nat.lt_or_ge i (j - 1) with q | q
        · have := now_idx g hl q
          omega
        · have e : i = j - 1 := by omega
          subst e
          omega
      exact lo _ hm hlt
    · rw [List.length_map] at hi
      rw [List.getElem_map]
      have hm := now_o (List.getElem_mem hi)
      have hge : pickO s sp ≤ s.o.idxOf (nowL s)[i] := by
        rcases Nat.eq_zero_or_pos j with q | q
        · rw [hO0 q]
          exact Nat.zero_le _
        · have hl : j - 1 < (nowL s).length := by omega
          rw [hO q hl]
          exact now_idx g hi (by omega)
      exact up _ hm hge
theorem mapC_id {g : Int → Int} {c : Ct} (h : ∀ x ∈ vals c.2, g x = x) : mapC g c = c := by
  rw [mapC_congr (f := fun x => x) h]
  unfold mapC
  have : c.2.map (Option.map fun x : Int => x) = c.2 := by
    conv => rhs; rw [← List.map_id c.2]
    refine List.map_congr_left fun o _ => ?_
    cases o <;> rfl
  rw [this]
theorem okCt_map {m : Mc} {g : Int → Int} {c : Ct} (h : okCt m c) : okCt m (mapC g c) := ⟨h.1, by show (List.map _ _).length = _; rw [List.length_map]; exact h.2⟩
theorem rd_pos {m : Mc} {o : List Int} {c : Ct} {t : Nat} {it : Int} (hc : ∀ x ∈ vals c.2, x ∈ o) (hi : it ∈ o) : ∀ i ∈ vals (rd m (mapC (pos o) c) t (pos o it)).1.2, 0 ≤ i ∧ i < o.length := by
  intro i h
  rcases List.mem_cons.mp (rd_vals h) with e | h
  · rw [e]
    exact pos_lt hi
  · exact vals_pos hc i h
theorem adv_in {m : Mc} {o : List Int} {c : Ct} {t : Nat} {it : Int} (hc : ∀ x ∈ vals c.2, x ∈ o) (hi : it ∈ o) : ∀ x ∈ vals (adv m o c t it).2, x ∈ o := by
  intro x hx
  obtain ⟨i, h, rfl⟩ := vals_mapC hx
  obtain ⟨a, b⟩ := rd_pos hc hi i h
  exact itm_mem a b
theorem adv_pos {m : Mc} {o : List Int} (hd : o.Nodup) {c : Ct} {t : Nat} {it : Int} (hc : ∀ x ∈ vals c.2, x ∈ o) (hi : it ∈ o) : mapC (pos o) (adv m o c t it) = (rd m (mapC (pos o) c) t (pos o it)).1 := by
  unfold adv
  rw [mapC_comp]
  exact mapC_id fun i h => by
    obtain ⟨a, b⟩ := rd_pos hc hi i h
    exact pos_itm hd a b
theorem stp_good {m : Mc} {s : St} (ok : okM m) (g : Good m s) {t : Nat} {sp : Int} (ht : t < m.tags) (h0 : 0 ≤ sp) (h1 : sp ≤ 2 * ((nowL s).length : Int)) : Good m (stp m s (t, sp)) := by
  have hi := pick_mem g h0 h1
  have ic : ∀ x ∈ vals s.c.2, x ∈ ordI s sp := fun x hx => (ord_sub s sp).subset (g.ic x hx)
  have id : ∀ x ∈ vals s.d.2, x ∈ ordI s sp := fun x hx => (ord_sub s sp).subset (g.id x hx)
  exact ⟨ord_nodup g sp, ord_sm g sp, adv_in ic hi, adv_in id hi, okCt_map (rd_ok ok (okCt_map g.oc) ht), okCt_map (rd_ok ok (okCt_map g.od) ht)⟩
theorem stp_jts {m : Mc} {s : St} (g : Good m s) {t : Nat} {sp : Int} (ht : t < m.tags) (h0 : 0 ≤ sp) (h1 : sp ≤ 2 * ((nowL s).length : Int)) :
    jstep m (jts s) t sp = if (rd m (mapC (pos (ordI s sp)) s.c) t (pos (ordI s sp) (pickI s sp))).2 = (rd m (mapC (pos (ordI s sp)) s.d) t (pos (ordI s sp) (pickI s sp))).2 then some (jts (stp m s (t, sp))) else none := by
  have hi := pick_mem g h0 h1
  have ic : ∀ x ∈ vals s.c.2, x ∈ ordI s sp := fun x hx => (ord_sub s sp).subset (g.ic x hx)
  have id : ∀ x ∈ vals s.d.2, x ∈ ordI s sp := fun x hx => (ord_sub s sp).subset (g.id x hx)
  have e := jstep_sim (m := m) (c := mapC (pos (ordI s sp)) s.c) (d := mapC (pos (ordI s sp)) s.d) (okCt_map g.oc).2 t (pos (ordI s sp) (pickI s sp))
  rw [spot_gk g h0 h1, jts_up g (ord_sub s sp) (ord_nodup g sp)] at e
  rw [e]
  have e2 : jts (stp m s (t, sp)) = jt (rd m (mapC (pos (ordI s sp)) s.c) t (pos (ordI s sp) (pickI s sp))).1 (rd m (mapC (pos (ordI s sp)) s.d) t (pos (ordI s sp) (pickI s sp))).1 := by
    show jt (mapC (pos (ordI s sp)) (adv _ _ _ _ _)) (mapC (pos (ordI s sp)) (adv _ _ _ _ _)) = _
    rw [adv_pos (ord_nodup g sp) ic hi, adv_pos (ord_nodup g sp) id hi]
  rw [e2]
/-! the whole path -/
def runS (m : Mc) (s : St) (p : Pth) : St := p.foldl (stp m) s
def itms (m : Mc) : St → Pth → List (Nat × Int)
  | _, [] => []
  | s, (t, sp) :: p => (t, pickI s sp) :: itms m (stp m s (t, sp)) p
theorem run_sub (m : Mc) : ∀ (p : Pth) (s : St), s.o.Sublist (runS m s p).o
  | [], s => List.Sublist.refl _
  | (t, sp) :: p, s => (ord_sub s sp).trans (run_sub m p (stp m s (t, sp)))
theorem run_log (m : Mc) : ∀ (p : Pth) (s : St), (runS m s p).log = s.log ++ itms m s p
  | [], s => by
    show s.log = s.log ++ []
    rw [List.append_nil]
  | (t, sp) :: p, s => by
    show (runS m (stp m s (t, sp)) p).log = _
    rw [run_log m p (stp m s (t, sp))]
    show s.log ++ [(t, pickI s sp)] ++ itms m (stp m s (t, sp)) p = _
    rw [List.append_assoc]
    rfl
/-- the numbers' reading is the positions' reading -/
theorem real_rd {m : Mc} {o : List Int} {num : Int → Int} (hr : (o.map num).Pairwise (· < ·)) {c : Ct} {t : Nat} {it : Int} (hc : ∀ x ∈ vals c.2, x ∈ o) (hi : it ∈ o) :
    rd m (mapC num c) t (num it) = (mapC num (adv m o c t it), mapA (fun i => num (itm o i)) (rd m (mapC (pos o) c) t (pos o it)).2) := by
  have h := rd_map (g := fun i => num (itm o i)) m (mapC (pos o) c) t (v := pos o it) (rise_SM hr fun i h => by
    rcases List.mem_cons.mp h with e | h
    · rw [e]
      exact pos_lt hi
    · exact vals_pos hc i h)
  rw [← mapC_via hc] at h
  simp only [itm_pos hi] at h
  rw [h]
  unfold adv
  rw [mapC_comp]
theorem parts_log {m : Mc} (ok : okM m) (num : Int → Int) : ∀ (p : Pth) (s : St), Good m s → Fol m (jts s) p → ((runS m s p).o.map num).Pairwise (· < ·) →
    ans m (mapC num s.c) ((itms m s p).map fun q => (q.1, num q.2)) ≠ ans m (mapC num s.d) ((itms m s p).map fun q => (q.1, num q.2))
  | [], _, _, h, _ => h.elim
  | (t, sp) :: p, s, g, ⟨so, h⟩, hr => by
    obtain ⟨h0, h1⟩ := jts_spot g so
    have hi := pick_mem g h0 h1
    have ic : ∀ x ∈ vals s.c.2, x ∈ ordI s sp := fun x hx => (ord_sub s sp).subset (g.ic x hx)
    have id : ∀ x ∈ vals s.d.2, x ∈ ordI s sp := fun x hx => (ord_sub s sp).subset (g.id x hx)
    have hr' : ((ordI s sp).map num).Pairwise (· < ·) := hr.sublist ((run_sub m p (stp m s (t, sp))).map num)
    have rc := real_rd (m := m) (t := t) hr' ic hi
    have rD := real_rd (m := m) (t := t) hr' id hi
    have ej := stp_jts g so.1 h0 h1
    show ans m (mapC num s.c) ((t, num (pickI s sp)) :: (itms m (stp m s (t, sp)) p).map fun q => (q.1, num q.2)) ≠ ans m (mapC num s.d) ((t, num (pickI s sp)) :: (itms m (stp m s (t, sp)) p).map fun q => (q.1, num q.2))
    intro e
    unfold ans at e
    rw [rc, rD] at e
    injection e with e1 e2
    have inj : (rd m (mapC (pos (ordI s sp)) s.c) t (pos (ordI s sp) (pickI s sp))).2 = (rd m (mapC (pos (ordI s sp)) s.d) t (pos (ordI s sp) (pickI s sp))).2 := by
      refine mapA_inj (rise_SM hr' (l := pos (ordI s sp) (pickI s sp) :: (vals (mapC (pos (ordI s sp)) s.c).2 ++ vals (mapC (pos (ordI s sp)) s.d).2)) fun i h => ?_) (fun q hq x hx => ?_) (fun q hq x hx => ?_) e1
      · rcases List.mem_cons.mp h with e | h
        · rw [e]
          exact pos_lt hi
        · rcases List.mem_append.mp h with h | h
          · exact vals_pos ic i h
          · exact vals_pos id i h
      · rcases List.mem_cons.mp (rd_says hq hx) with e | h
        · rw [e]
          exact List.mem_cons_self
        · exact List.mem_cons_of_mem _ (List.mem_append_left _ h)
      · rcases List.mem_cons.mp (rd_says hq hx) with e | h
        · rw [e]
          exact List.mem_cons_self
        · exact List.mem_cons_of_mem _ (List.mem_append_right _ h)
    rw [if_pos inj] at ej
    rcases h with ⟨_, q⟩ | ⟨J', q, hf⟩
    · rw [q] at ej
      cases ej
    · rw [q] at ej
      cases ej
      exact parts_log ok num p (stp m s (t, sp)) (stp_good ok g so.1 h0 h1) hf hr e2
end K59

/-! The plain law, part 4: numbers for items, the spaced contents. -/
namespace K59
def withV (k : Ct) (vals : List Int) : Ct := (k.1, k.2.map (Option.map fun r => vals.getD r.toNat 0))
def evN (n : Nat) : List Int := (List.range n).map fun i : Nat => 2 * (i : Int)
def mvN (n r : Nat) : List Int := (evN n).take r ++ [2 * (r : Int) + 1] ++ (evN n).drop (r + 1)
/-! the start -/
def rg (n : Nat) : List Int := (List.range n).map fun i : Nat => (i : Int)
theorem mem_rg {n : Nat} {x : Int} : x ∈ rg n ↔ 0 ≤ x ∧ x < n := by
  unfold rg
  rw [List.mem_map]
  constructor
  · rintro ⟨i, hi, rfl⟩
    have := List.mem_range.mp hi
    omega
  · rintro ⟨h0, h1⟩
    exact ⟨x.toNat, List.mem_range.mpr (by omega), by omega⟩
theorem rg_length (n : Nat) : (rg n).length = n := by
  unfold rg
  rw [List.length_map, List.length_range]
theorem rg_get {n i : Nat} (h : i < n) : (rg n)[i]'(by rw [rg_length]; exact h) = i := by
  unfold rg
  rw [List.getElem_map, List.getElem_range]
theorem rg_sorted (n : Nat) : (rg n).Pairwise (· < ·) := by
  unfold rg
  rw [List.pairwise_map]
  exact List.pairwise_lt_range.imp fun h => by omega
theorem rg_nodup (n : Nat) : (rg n).Nodup := (rg_sorted n).imp fun h => Int.ne_of_lt h
theorem rg_pos {n : Nat} {x : Int} (h : x ∈ rg n) : pos (rg n) x = x := by
  obtain ⟨h0, h1⟩ := mem_rg.mp h
  obtain ⟨i, rfl⟩ : ∃ i : Nat, x = i := ⟨x.toNat, by omega⟩
  have hi : i < n := by omega
  have := (rg_nodup n).idxOf_getElem i (by rw [rg_length]; exact hi)
  rw [rg_get hi] at this
  unfold pos
  rw [this]
def st0 (c d : Ct) : St := ⟨rg (kn (c.2 ++ d.2)).length, mapC (fun v => (rk (kn (c.2 ++ d.2)) v : Int)) c, mapC (fun v => (rk (kn (c.2 ++ d.2)) v : Int)) d, []⟩
theorem rk_in {ns : List Int} {v : Int} (h : v ∈ ns) : (rk ns v : Int) ∈ rg ns.length := mem_rg.mpr ⟨by omega, by have := rk_lt h; omega⟩
theorem st0_good {m : Mc} {c d : Ct} (hc : okCt m c) (hd : okCt m d) : Good m (st0 c d) := by
  refine ⟨rg_nodup _, fun x hx => ?_, fun x hx => ?_, fun x hx => ?_, okCt_map hc, okCt_map hd⟩
  · have := (mem_rg.mp hx).2
    show x < ((rg _).length : Int)
    rw [rg_length]
    exact this
  · obtain ⟨v, hv, rfl⟩ := vals_mapC hx
    exact rk_in (mem_known (.inl hv))
  · obtain ⟨v, hv, rfl⟩ := vals_mapC hx
    exact rk_in (mem_known (.inr hv))
theorem st0_jts {c d : Ct} : jts (st0 c d) = jt c d := by
  unfold jts st0
  simp only
  rw [mapC_id (g := pos _) fun x hx => ?_, mapC_id (g := pos _) fun x hx => ?_]
  · refine jt_map ((rk_SM (kn_sorted (c.2 ++ d.2))).sub fun x hx => ?_)
    exact mem_known (List.mem_append.mp hx)
  · obtain ⟨v, hv, rfl⟩ := vals_mapC hx
    exact rg_pos (rk_in (mem_known (.inr hv)))
  · obtain ⟨v, hv, rfl⟩ := vals_mapC hx
    exact rg_pos (rk_in (mem_known (.inl hv)))
/-! the numbers of items -/
def numL (ks : List Int) : Int → List Int → List Int
  | _, [] => []
  | v, it :: r => (if it < ks.length then ks.getD it.toNat 0 else v + 1) :: numL ks (if it < ks.length then ks.getD it.toNat 0 else v + 1) r
theorem numL_length (ks : List Int) : ∀ (r : List Int) (v : Int), (numL ks v r).length = r.length
  | [], _ => rfl
  | it :: r, v => by
    unfold numL
    rw [List.length_cons, List.length_cons, numL_length ks r]
theorem numL_known {ks : List Int} : ∀ {r : List Int} {v : Int} {j : Nat} {it : Int}, r[j]? = some it → it < ks.length → (numL ks v r)[j]? = some (ks.getD it.toNat 0)
  | [], _, j, _, h, _ => by
    rw [List.getElem?_nil] at h
    cases h
  | x :: r, v, 0, it, h, hi => by
    have e : x = it := Option.some.inj h
    subst e
    unfold numL
    rw [if_pos hi]
    rfl
  | x :: r, v, j + 1, it, h, hi => by
    unfold numL
    exact numL_known (r := r) (j := j) h hi
theorem numL_rise {ks : List Int} {N : Nat} (gap : ∀ j, j + 1 < ks.length → ks.getD j 0 + N < ks.getD (j + 1) 0) : ∀ (r : List Int) (v : Int) (i : Nat), r.length ≤ N → r.filter (fun x : Int => decide (x < (ks.length : Nat))) = (rg ks.length).drop i → (i < ks.length → v + (r.idxOf (i : Int) : Nat) < ks.getD i 0) →
    (numL ks v r).Pairwise (· < ·) ∧ ∀ y ∈ numL ks v r, v < y
  | [], _, _, _, _, _ => ⟨List.Pairwise.nil, fun y h => nomatch h⟩
  | it :: r, v, i, hN, hf, hi => by
    rw [List.length_cons] at hN
    by_cases h : it < ks.length
    · rw [List.filter_cons_of_pos (p := fun x : Int => decide (x < (ks.length : Nat))) (decide_eq_true h)] at hf
      have hin : i < ks.length := by
        rcases Nat.lt_or_ge i ks.length with q | q
        · exact q
        · rw [List.drop_eq_nil_of_le (by rw [rg_length]; exact q)] at hf
          cases hf
      rw [List.drop_eq_getElem_cons (by rw [rg_length]; exact hin)] at hf
      injection hf with e1 e2
      rw [rg_get hin] at e1
      subst e1
      have hv := hi hin
      rw [List.idxOf_cons_self] at hv
      have ih := numL_rise gap r (ks.getD i 0) (i + 1) (by omega) e2 fun q => by
        have := gap i q
        have := List.idxOf_le_length (l := r) (a := ((i + 1 : Nat) : Int))
        omega
      unfold numL
      rw [if_pos h, Int.toNat_natCast]
      refine ⟨List.pairwise_cons.mpr ⟨ih.2, ih.1⟩, fun y hy => ?_⟩
      rcases List.mem_cons.mp hy with e | hy
      · rw [e]
        omega
      · have := ih.2 y hy
        omega
    · rw [List.filter_cons_of_neg (p := fun x : Int => decide (x < (ks.length : Nat))) (fun q => h (of_decide_eq_true q))] at hf
      have ih := numL_rise gap r (v + 1) i (by omega) hf fun q => by
        have := hi q
        rw [idxC_ne (by omega)] at this
        omega
      unfold numL
      rw [if_neg h]
      refine ⟨List.pairwise_cons.mpr ⟨ih.2, ih.1⟩, fun y hy => ?_⟩
      rcases List.mem_cons.mp hy with e | hy
      · rw [e]
        omega
      · have := ih.2 y hy
        omega
def strt (ks o : List Int) : Int := if 0 < ks.length then ks.getD 0 0 - (o.idxOf 0 : Nat) else 0
def numO (ks o : List Int) : List Int := numL ks (strt ks o - 1) o
def num (ks o : List Int) (x : Int) : Int := (numO ks o).getD (o.idxOf x) 0
theorem map_num {ks o : List Int} (hd : o.Nodup) : o.map (num ks o) = numO ks o := by
  refine List.ext_getElem (by rw [List.length_map]; exact (numL_length _ _ _).symm) fun i h1 h2 => ?_
  rw [List.length_map] at h1
  rw [List.getElem_map]
  unfold num
  rw [hd.idxOf_getElem i h1, List.getD_eq_getElem?_getD, List.getElem?_eq_getElem h2, Option.getD_some]
theorem num_rise {ks o : List Int} (gap : ∀ j, j + 1 < ks.length → ks.getD j 0 + o.length < ks.getD (j + 1) 0) (hd : o.Nodup) (hf : o.filter (fun x : Int => decide (x < (ks.length : Nat))) = rg ks.length) : (o.map (num ks o)).Pairwise (· < ·) := by
  rw [map_num hd]
  refine (numL_rise gap o _ 0 (Nat.le_refl _) (by rw [List.drop_zero]; exact hf) fun h => ?_).1
  unfold strt
  rw [if_pos h]
  show _ - _ - 1 + ((o.idxOf 0 : Nat) : Int) < _
  omega
theorem num_known {ks o : List Int} {it : Int} (h : it ∈ o) (hl : it < ks.length) : num ks o it = ks.getD it.toNat 0 := by
  unfold num numO
  rw [List.getD_eq_getElem?_getD, numL_known (j := o.idxOf it) (it := it) ?_ hl, Option.getD_some]
  rw [List.getElem?_eq_getElem (List.idxOf_lt_length_iff.mpr h), List.getElem_idxOf]
theorem get_rk {ns : List Int} {v : Int} (hs : ns.Pairwise (· < ·)) (h : v ∈ ns) : ns.getD (rk ns v) 0 = v := by
  obtain ⟨j, hj⟩ := List.mem_iff_getElem?.mp h
  rw [rk_at hs hj, List.getD_eq_getElem?_getD, hj, Option.getD_some]
/-- in the order the known items stand as they stood -/
structure OrdK (n : Nat) (o : List Int) : Prop where
  le : n ≤ o.length
  fi : o.filter (fun x : Int => decide (x < (n : Nat))) = rg n
theorem ord_step {n : Nat} {s : St} (h : OrdK n s.o) (sp : Int) : OrdK n (ordI s sp) := by
  refine ⟨Nat.le_trans h.le (ord_sub s sp).length_le, ?_⟩
  unfold ordI
  split
  · exact h.fi
  · rw [List.filter_append, List.filter_append, List.filter_cons_of_neg (p := fun x : Int => decide (x < (n : Nat))) (fun q => by have := of_decide_eq_true q; have := h.le; omega), List.filter_nil, List.append_nil, ← List.filter_append, List.take_append_drop]
    exact h.fi
theorem ord_run {n : Nat} (m : Mc) : ∀ (p : Pth) (s : St), OrdK n s.o → OrdK n (runS m s p).o
  | [], _, h => h
  | (t, sp) :: p, s, h => ord_run m p (stp m s (t, sp)) (ord_step h sp)
theorem len_run (m : Mc) : ∀ (p : Pth) (s : St), (runS m s p).o.length ≤ s.o.length + p.length
  | [], _ => Nat.le_refl _
  | (t, sp) :: p, s => by
    have h1 := len_run m p (stp m s (t, sp))
    have h2 : (stp m s (t, sp)).o.length ≤ s.o.length + 1 := by
      show (ordI s sp).length ≤ _
      rw [ord_len]
      split <;> omega
    rw [List.length_cons]
    show (runS m (stp m s (t, sp)) p).o.length ≤ _
    omega
theorem run_good {m : Mc} (ok : okM m) : ∀ (p : Pth) (s : St), Good m s → Fol m (jts s) p → Good m (runS m s p)
  | [], _, _, h => h.elim
  | (t, sp) :: p, s, g, ⟨so, h⟩ => by
    obtain ⟨h0, h1⟩ := jts_spot g so
    have g' := stp_good ok g so.1 h0 h1
    rcases h with ⟨e, _⟩ | ⟨J', e, hf⟩
    · rw [e]
      exact g'
    · rw [stp_jts g so.1 h0 h1] at e
      split at e
      · cases e
        exact run_good ok p _ g' hf
      · cases e
theorem st0_ord (c d : Ct) : OrdK (kn (c.2 ++ d.2)).length (st0 c d).o := by
  refine ⟨by show _ ≤ (rg _).length; rw [rg_length]; exact Nat.le_refl _, List.filter_eq_self.mpr fun x hx => ?_⟩
  exact decide_eq_true (mem_rg.mp hx).2
/-- THE LOG parts the two contents -/
theorem law_log {m : Mc} (ok : okM m) {c d : Ct} (hc : okCt m c) (hd : okCt m d) {p : Pth} (hf : Fol m (jt c d) p) (gap : ∀ j, j + 1 < (kn (c.2 ++ d.2)).length → (kn (c.2 ++ d.2)).getD j 0 + ((kn (c.2 ++ d.2)).length + p.length : Nat) < (kn (c.2 ++ d.2)).getD (j + 1) 0) :
    ans m c ((itms m (st0 c d) p).map fun q => (q.1, num (kn (c.2 ++ d.2)) (runS m (st0 c d) p).o q.2)) ≠ ans m d ((itms m (st0 c d) p).map fun q => (q.1, num (kn (c.2 ++ d.2)) (runS m (st0 c d) p).o q.2)) := by
  have g := st0_good (m := m) hc hd
  have hf' : Fol m (jts (st0 c d)) p := by rw [st0_jts]; exact hf
  have gr := run_good ok p _ g hf'
  have od := ord_run m p _ (st0_ord c d)
  have hlen := len_run m p (st0 c d)
  rw [show (st0 c d).o.length = (kn (c.2 ++ d.2)).length from rg_length _] at hlen
  have hr := num_rise (ks := kn (c.2 ++ d.2)) (o := (runS m (st0 c d) p).o) (fun j hj => by have := gap j hj; omega) gr.nd od.fi
  have h := parts_log ok _ p _ g hf' hr
  have back : ∀ e : Ct, (∀ v ∈ vals e.2, v ∈ kn (c.2 ++ d.2)) → mapC (num (kn (c.2 ++ d.2)) (runS m (st0 c d) p).o) (mapC (fun v => (rk (kn (c.2 ++ d.2)) v : Int)) e) = e := fun e he => by
    rw [mapC_comp]
    refine mapC_id fun v hv => ?_
    have hk := he v hv
    rw [num_known ((run_sub m p (st0 c d)).subset (rk_in hk)) (by have := rk_lt hk; omega), Int.toNat_natCast, get_rk (kn_sorted _) hk]
  rw [show (st0 c d).c = mapC (fun v => (rk (kn (c.2 ++ d.2)) v : Int)) c from rfl, show (st0 c d).d = mapC (fun v => (rk (kn (c.2 ++ d.2)) v : Int)) d from rfl, back c fun v hv => mem_known (.inl hv), back d fun v hv => mem_known (.inr hv)] at h
  exact h
end K59

/-! The plain law, part 5: the spaced contents have the joint types of the narrow ones. -/
namespace K59
/-- a quarter of the law's width -/
def QQ : Int := 1000000000000000000000000000000000000000000000000000000000000
def lvN (n : Nat) : List Int := (List.range n).map fun i : Nat => (i : Int) * (4 * QQ)
def lsN (n r : Nat) (dl : Int) : List Int := (lvN n).set r ((r : Int) * (4 * QQ) + dl)
theorem lv_get {n j : Nat} (h : j < n) : (lvN n).getD j 0 = (j : Int) * (4 * QQ) := by
  unfold lvN
  rw [List.getD_eq_getElem?_getD, List.getElem?_map, List.getElem?_range h]
  rfl
theorem ls_get {n r j : Nat} {dl : Int} (h : j < n) : (lsN n r dl).getD j 0 = if j = r then (r : Int) * (4 * QQ) + dl else (j : Int) * (4 * QQ) := by
  unfold lsN
  rw [List.getD_eq_getElem?_getD, List.getElem?_set]
  by_cases e : j = r
  · rw [if_pos e.symm, if_pos e, if_pos]
    · rfl
    · unfold lvN
      rw [List.length_map, List.length_range]
      omega
  · rw [if_neg (fun q => e q.symm), if_neg e, ← List.getD_eq_getElem?_getD, lv_get h]
theorem ev_get {n j : Nat} (h : j < n) : (evN n).getD j 0 = 2 * (j : Int) := by
  unfold evN
  rw [List.getD_eq_getElem?_getD, List.getElem?_map, List.getElem?_range h]
  rfl
theorem ev_len (n : Nat) : (evN n).length = n := by
  unfold evN
  rw [List.length_map, List.length_range]
theorem mv_get {n r j : Nat} (hr : r < n) (h : j < n) : (mvN n r).getD j 0 = if j = r then 2 * (r : Int) + 1 else 2 * (j : Int) := by
  have e : mvN n r = (evN n).set r (2 * (r : Int) + 1) := by
    unfold mvN
    rw [List.set_eq_take_append_cons_drop, if_pos (by rw [ev_len]; exact hr), List.append_assoc]
    rfl
  rw [e, List.getD_eq_getElem?_getD, List.getElem?_set]
  by_cases q : j = r
  · rw [if_pos q.symm, if_pos q, if_pos (by rw [ev_len]; omega)]
    rfl
  · rw [if_neg (fun z => q z.symm), if_neg q, ← List.getD_eq_getElem?_getD, ev_get h]
theorem withV_map {k : Ct} {n : Nat} (hk : ∀ r, some r ∈ k.2 → 0 ≤ r ∧ r.toNat < n) {g : Int → Int} {as bs : List Int} (h : ∀ j, j < n → bs.getD j 0 = g (as.getD j 0)) : withV k bs = mapC g (withV k as) := by
  unfold withV mapC
  simp only [List.map_map]
  congr 1
  refine List.map_congr_left fun o ho => ?_
  cases o with
  | none => rfl
  | some r =>
    show some (bs.getD r.toNat 0) = some (g (as.getD r.toNat 0))
    rw [h _ (hk r ho).2]
theorem vals_with {k : Ct} {n : Nat} (hk : ∀ r, some r ∈ k.2 → 0 ≤ r ∧ r.toNat < n) {as : List Int} {x : Int} (h : x ∈ vals (withV k as).2) : ∃ j, j < n ∧ x = as.getD j 0 := by
  obtain ⟨o, ho, e⟩ := List.mem_map.mp (mem_vals.mp h)
  cases o with
  | none => cases e
  | some r => exact ⟨r.toNat, (hk r ho).2, (Option.some.inj e).symm⟩
theorem jt_up {k : Ct} {n r : Nat} (hk : ∀ r, some r ∈ k.2 → 0 ≤ r ∧ r.toNat < n) (hr : r < n) : jt (withV k (lvN n)) (withV k (lsN n r (2 * QQ))) = jt (withV k (evN n)) (withV k (mvN n r)) := by
  have h1 : withV k (lvN n) = mapC (fun x => x * (2 * QQ)) (withV k (evN n)) := withV_map hk fun j hj => by
    show _ = _ * (2 * QQ)
    rw [lv_get hj, ev_get hj]
    unfold QQ
    omega
  have h2 : withV k (lsN n r (2 * QQ)) = mapC (fun x => x * (2 * QQ)) (withV k (mvN n r)) := withV_map hk fun j hj => by
    show _ = _ * (2 * QQ)
    rw [ls_get hj, mv_get hr hj]
    unfold QQ
    split <;> omega
  rw [h1, h2]
  refine jt_map fun a _ b _ hab => ?_
  show a * (2 * QQ) < b * (2 * QQ)
  unfold QQ
  omega
def gd (r : Nat) (x : Int) : Int := if x = 2 * (r : Int) then (r : Int) * (4 * QQ) - QQ else (x / 2) * (4 * QQ)
theorem jt_down {k : Ct} {n r : Nat} (hk : ∀ r, some r ∈ k.2 → 0 ≤ r ∧ r.toNat < n) (hr : r < n) : jt (withV k (lvN n)) (withV k (lsN n r (-QQ))) = jt (withV k (mvN n r)) (withV k (evN n)) := by
  have h1 : withV k (lvN n) = mapC (gd r) (withV k (mvN n r)) := withV_map hk fun j hj => by
    rw [lv_get hj, mv_get hr hj]
    unfold gd QQ
    split
    · rename_i e
      rw [if_neg (by omega), e]
      omega
    · rename_i e
      rw [if_neg (by omega)]
      omega
  have h2 : withV k (lsN n r (-QQ)) = mapC (gd r) (withV k (evN n)) := withV_map hk fun j hj => by
    rw [ls_get hj, ev_get hj]
    unfold gd QQ
    split
    · rename_i e
      rw [if_pos (by omega)]
      omega
    · rename_i e
      rw [if_neg (by omega)]
      omega
  rw [h1, h2]
  have form : ∀ a, a ∈ vals (withV k (mvN n r)).2 ++ vals (withV k (evN n)).2 → ∃ j : Nat, a = 2 * (j : Int) ∨ (a = 2 * (r : Int) + 1) := fun a ha => by
    rcases List.mem_append.mp ha with h | h
    · obtain ⟨j, hj, e⟩ := vals_with hk h
      rw [mv_get hr hj] at e
      split at e
      · exact ⟨j, .inr e⟩
      · exact ⟨j, .inl e⟩
    · obtain ⟨j, hj, e⟩ := vals_with hk h
      rw [ev_get hj] at e
      exact ⟨j, .inl e⟩
  refine jt_map fun a ha b hb hab => ?_
  obtain ⟨i, hi⟩ := form a ha
  obtain ⟨j, hj⟩ := form b hb
  unfold gd QQ
  split <;> split <;> rcases hi with hi | hi <;> rcases hj with hj | hj <;> omega
/-- gaps between the values of the spaced contents -/
theorem law_gap {k : Ct} {n r : Nat} (hk : ∀ r, some r ∈ k.2 → 0 ≤ r ∧ r.toNat < n) {dl : Int} (hdl : dl = 2 * QQ ∨ dl = -QQ) {j : Nat} (hj : j + 1 < (kn ((withV k (lvN n)).2 ++ (withV k (lsN n r dl)).2)).length) :
    (kn ((withV k (lvN n)).2 ++ (withV k (lsN n r dl)).2)).getD j 0 + 1000000 < (kn ((withV k (lvN n)).2 ++ (withV k (lsN n r dl)).2)).getD (j + 1) 0 := by
  generalize hks : kn ((withV k (lvN n)).2 ++ (withV k (lsN n r dl)).2) = ks at hj ⊢
  have hs : ks.Pairwise (· < ·) := by rw [← hks]; exact kn_sorted _
  have hm : ∀ x ∈ ks, ∃ a : Int, x = a * QQ := fun x hx => by
    rw [← hks] at hx
    have hx2 := mem_kn.mp hx
    rcases List.mem_append.mp hx2 with h | h
    · obtain ⟨i, hi, e⟩ := vals_with hk (mem_vals.mpr h)
      rw [lv_get hi] at e
      exact ⟨(i : Int) * 4, by rw [e]; unfold QQ; omega⟩
    · obtain ⟨i, hi, e⟩ := vals_with hk (mem_vals.mpr h)
      rw [ls_get hi] at e
      split at e
      · rcases hdl with rfl | rfl
        · exact ⟨(r : Int) * 4 + 2, by rw [e]; unfold QQ; omega⟩
        · exact ⟨(r : Int) * 4 - 1, by rw [e]; unfold QQ; omega⟩
      · exact ⟨(i : Int) * 4, by rw [e]; unfold QQ; omega⟩
  have h1 : ks.getD j 0 = ks[j] := by rw [List.getD_eq_getElem?_getD, List.getElem?_eq_getElem (by omega), Option.getD_some]
  have h2 : ks.getD (j + 1) 0 = ks[j + 1] := by rw [List.getD_eq_getElem?_getD, List.getElem?_eq_getElem hj, Option.getD_some]
  rw [h1, h2]
  have hlt := List.pairwise_iff_getElem.mp hs j (j + 1) (by omega) hj (by omega)
  obtain ⟨a, ha⟩ := hm _ (List.getElem_mem (show j < ks.length by omega))
  obtain ⟨b, hb⟩ := hm _ (List.getElem_mem hj)
  rw [ha, hb] at hlt ⊢
  unfold QQ at hlt ⊢
  omega
end K59

namespace K59
theorem idxOf_le_at {o : List Int} {x : Int} : ∀ {j : Nat}, o[j]? = some x → o.idxOf x ≤ j := by
  induction o with
  | nil => intro j h; rw [List.getElem?_nil] at h; cases h
  | cons y o ih =>
    intro j h
    by_cases e : y = x
    · rw [e, List.idxOf_cons_self]
      exact Nat.zero_le _
    · cases j with
      | zero => exact absurd (Option.some.inj h) e
      | succ j =>
        rw [idxC_ne e]
        exact Nat.succ_le_succ (ih h)
/-- the numbers, step by step -/
def lastV (v : Int) (l : List Int) : Int := l.getLast?.getD v
theorem numL_snoc (ks : List Int) : ∀ (r : List Int) (v it : Int), numL ks v (r ++ [it]) = numL ks v r ++ [if it < ks.length then ks.getD it.toNat 0 else lastV v (numL ks v r) + 1]
  | [], v, it => rfl
  | x :: r, v, it => by
    rw [List.cons_append]
    unfold numL
    rw [numL_snoc ks r, List.cons_append]
    unfold lastV
    rw [List.getLast?_cons]
    rfl
theorem lastV_snoc (v e : Int) (l : List Int) : lastV v (l ++ [e]) = e := by
  unfold lastV
  rw [List.getLast?_concat]
  rfl
theorem ord_nn {s : St} (h : ∀ x ∈ s.o, 0 ≤ x) (sp : Int) : ∀ x ∈ ordI s sp, 0 ≤ x := by
  intro x hx
  rcases ord_mem hx with h1 | h1
  · exact h x h1
  · rw [h1]
    exact Int.natCast_nonneg _
theorem run_nn (m : Mc) : ∀ (p : Pth) (s : St), (∀ x ∈ s.o, 0 ≤ x) → ∀ x ∈ (runS m s p).o, 0 ≤ x
  | [], _, h => h
  | (t, sp) :: p, s, h => run_nn m p (stp m s (t, sp)) (ord_nn h sp)
theorem itms_in {m : Mc} (ok : okM m) : ∀ (p : Pth) (s : St), Good m s → Fol m (jts s) p → ∀ q ∈ itms m s p, q.2 ∈ (runS m s p).o
  | [], _, _, h => h.elim
  | (t, sp) :: p, s, g, ⟨so, h⟩ => fun q hq => by
    obtain ⟨h0, h1⟩ := jts_spot g so
    rcases List.mem_cons.mp hq with e | hq
    · rw [e]
      exact (run_sub m p (stp m s (t, sp))).subset (pick_mem g h0 h1)
    · rcases h with ⟨e, _⟩ | ⟨J', e, hf⟩
      · rw [e] at hq
        cases hq
      · rw [stp_jts g so.1 h0 h1] at e
        split at e
        · cases e
          exact itms_in ok p _ (stp_good ok g so.1 h0 h1) hf q hq
        · cases e
theorem itms_tags {m : Mc} : ∀ {p : Pth} {s : St} {J : Jt}, Fol m J p → ∀ q ∈ itms m s p, q.1 < m.tags
  | [], _, _, h => h.elim
  | (t, sp) :: p, s, J, ⟨so, h⟩ => fun q hq => by
    rcases List.mem_cons.mp hq with e | hq
    · rw [e]
      exact so.1
    · rcases h with ⟨e, _⟩ | ⟨J', _, hf⟩
      · rw [e] at hq
        cases hq
      · exact itms_tags hf q hq
theorem itms_len {m : Mc} : ∀ (p : Pth) (s : St), (itms m s p).length = p.length
  | [], _ => rfl
  | (t, sp) :: p, s => by
    show (_ :: itms m _ p).length = _
    rw [List.length_cons, itms_len p, List.length_cons]
end K59

namespace K59
open PySem PySem.Spec PyProof.Rows L2
local macro_rules | `(tactic| wp_walk using $ts,*) => `(tactic| try simp only [↓u_var, ↓u_c, ↓u_op, ↓u_un, ↓u_I0, ↓u_I, ↓u_U, ↓u_eq, ↓u_ne, ↓u_T, ↓u_L, ↓u_test, ↓u_B, ↓u_and, ↓u_or, ↓u_not, ↓u_notV, ↓u_isN, ↓u_notN, ↓u_if, ↓u_nil, ↓u_cons, ↓u_call, ↓u_CB, ↓u_lenL, ↓u_lenT, ↓u_int1, ↓u_intB, ↓u_seq, ↓u_asg, ↓u_name, ↓u_ret, ↓u_ifS, ↓u_next, ↓u_drop, ↓u_break, ↓u_yes, ↓u_aug, ↓u_ipI, ↓u_tup, ↓u_lst, ↓u_tupL, ↓u_lstL, ↓u_lstT, ↓u_catX, ↓u_slX, ↓u_sl, ↓u_noP, ↓u_part, ↓u_gnil, ↓u_gcons, L2.start, List.map_cons, List.map_nil, List.length_cons, List.length_nil, List.replicate_succ, List.replicate_zero, List.cons_append, List.nil_append, List.append_nil, List.getElem?_cons_zero, List.getElem?_cons_succ, List.set_cons_zero, List.set_cons_succ, Option.some.injEq, exists_eq_left', exists_eq_left, V.int.injEq, V.ref.injEq, V.bl.injEq, V.str.injEq, HO.tup.injEq, HO.lst.injEq, List.cons.injEq, and_true, true_and, atI_0, atI_1, atI_2, atI_3, decide_eq_true_eq, reduceCtorEq, scal, Bool.false_eq_true, Bool.not_eq_true', decide_true, decide_false, Bool.not_true, Bool.not_false, decide_eq_false_iff_not, L2.wipe, ↓reduceIte, ite_true, ite_false, ↓u_lm, ↓u_lm0, ↓u_idxL, ↓u_appL, ↓u_popL, ↓u_revL, ↓u_inL, ↓u_inT, exists_eq', exists_eq, $[$ts:term],*])
/-! ### comprehensions, loops: what is left to be shown -/
section
variable {K : PySem.W.Frag} {σ : L2.St} {H : Hp} {Q : VK} {D : Ends}
def LcI (J : It) (g : TG) (tt : TT) (te : TE) (vs : List Nat) (σ : L2.St) (H1 : Hp) (Q : VK) : Prop := ∀ D, H1 D = none → ∃ W : Nat → Nat → Hp → Prop, (∃ m, W 0 m (upd H1 D (.lst []))) ∧ ∀ i m H, W i m H →
  (J.stop i H ∧ Q (.ref D) H) ∨ (J.go i H ∧ ∃ Nx : Hp → Prop, (∀ H', Nx H' → ∃ m', m' < m ∧ W (i + 1) m' H') ∧ ∀ x H', J.yld i H x H' → g x (wipe σ vs) H' fun σ2 H2 => wipe σ2 vs = wipe σ vs ∧ tt σ2 H2 fun b H3 =>
    if b = true then te σ2 H3 fun y H4 => ∃ acc, H4 D = some (.lst acc) ∧ acc.length < sizeLine ∧ Nx (upd H4 D (.lst (acc ++ [y]))) else Nx H3)
def ForI (J : It) (g : TG) (tb : TS) (D : Ends) (σ : L2.St) (H1 : Hp) : Prop := ∃ W : Nat → Nat → L2.St → Hp → Prop, (∃ m, W 0 m σ H1) ∧ ∀ i m σ H, W i m σ H →
  (J.stop i H ∧ D.nx σ H) ∨ (J.go i H ∧ ∃ N : L2.St → Hp → Prop, (∀ σ' H', N σ' H' → ∃ m', m' < m ∧ W (i + 1) m' σ' H') ∧ ∀ x H', J.yld i H x H' → g x σ H' fun σ2 H2 => tb { D with nx := N, ct := N, bk := D.nx } σ2 H2)
theorem u_lcT {te tel : TE} {g : TG} {tt : TT} {vs : List Nat} : tLc (iTup K te) g tt tel vs σ H Q = te σ H fun x H1 => ∃ a, x = .ref a ∧ (∃ xs, SqT K H1 a xs) ∧ LcI (Itt K a) g tt tel vs σ H1 Q := rfl
theorem u_lcL {te tel : TE} {g : TG} {tt : TT} {vs : List Nat} : tLc (iList K te) g tt tel vs σ H Q = te σ H fun x H1 => ∃ a, x = .ref a ∧ (∃ xs, SqL K H1 a xs) ∧ LcI (Itl K a) g tt tel vs σ H1 Q := rfl
theorem u_lcR {ta : TA} {tel : TE} {g : TG} {tt : TT} {vs : List Nat} : tLc (iRng1 ta) g tt tel vs σ H Q = ta σ H fun us H1 => ∃ j : Int, us = [.int j] ∧ (-(2 ^ 62) ≤ j ∧ j < 2 ^ 62) ∧ LcI (Itr 0 j.toNat) g tt tel vs σ H1 Q := by
  unfold tLc iRng1 LcI
  simp only [and_assoc]
theorem u_forT {te : TE} {g : TG} {tb : TS} : tFor (iTup K te) g tb D σ H = te σ H fun x H1 => ∃ a, x = .ref a ∧ (∃ xs, SqT K H1 a xs) ∧ ForI (Itt K a) g tb D σ H1 := rfl
theorem u_forL {te : TE} {g : TG} {tb : TS} : tFor (iList K te) g tb D σ H = te σ H fun x H1 => ∃ a, x = .ref a ∧ (∃ xs, SqL K H1 a xs) ∧ ForI (Itl K a) g tb D σ H1 := rfl
theorem u_forE {ta : TA} {g : TG} {tb : TS} : tFor (iEnT K ta) g tb D σ H = ta σ H fun us H1 => ∃ a xs, us = [.ref a] ∧ H1 a = some (.tup xs) ∧ ForI (ItE K a) g tb D σ H1 := rfl
theorem u_forR {ta : TA} {g : TG} {tb : TS} : tFor (iRng1 ta) g tb D σ H = ta σ H fun us H1 => ∃ j : Int, us = [.int j] ∧ (-(2 ^ 62) ≤ j ∧ j < 2 ^ 62) ∧ ForI (Itr 0 j.toNat) g tb D σ H1 := by
  unfold tFor iRng1 ForI
  simp only [and_assoc]
end
/-! a list of values by a relation -/
def AR {α : Type} (R : Hp → α → V → Prop) (H : Hp) : List α → List V → Prop
  | [], vs => vs = []
  | k :: ks, vs => ∃ v r, vs = v :: r ∧ R H k v ∧ AR R H ks r
theorem AR.rps {H : Hp} : ∀ {ks : List NestedKey} {vs : List V}, AR Rp H ks vs → Rps H ks vs
  | [], _, h => h
  | _ :: _, _, ⟨v, r, e1, e2, e3⟩ => ⟨v, r, e1, e2, e3.rps⟩
def FlatR {α : Type} (f : α → V) : Hp → α → V → Prop := fun _ k v => v = f k
theorem AR.flat {α : Type} {f : α → V} {H : Hp} : ∀ {ks : List α} {vs : List V}, AR (FlatR f) H ks vs → vs = ks.map f
  | [], _, h => h
  | _ :: _, _, ⟨v, r, e1, e2, e3⟩ => by
    rw [e1, show v = f _ from e2, e3.flat]
    rfl
theorem AR.snoc {α : Type} {R : Hp → α → V → Prop} {H : Hp} {k : α} {v : V} : ∀ {ks : List α} {vs : List V}, AR R H ks vs → R H k v → AR R H (ks ++ [k]) (vs ++ [v])
  | [], _, h, q => by
    rw [show _ = [] from h]
    exact ⟨v, [], rfl, q, rfl⟩
  | _ :: _, _, ⟨u, r, e1, e2, e3⟩, q => ⟨u, r ++ [v], by rw [e1]; rfl, e2, e3.snoc q⟩
theorem AR.tub {α : Type} {R : Hp → α → V → Prop} (hR : ∀ H H' k v, Tub H H' → R H k v → R H' k v) {H H' : Hp} (t : Tub H H') : ∀ {ks : List α} {vs : List V}, AR R H ks vs → AR R H' ks vs
  | [], _, h => h
  | _ :: _, _, ⟨u, r, e1, e2, e3⟩ => ⟨u, r, e1, hR _ _ _ _ t e2, e3.tub hR t⟩
theorem AR.length {α : Type} {R : Hp → α → V → Prop} {H : Hp} : ∀ {ks : List α} {vs : List V}, AR R H ks vs → vs.length = ks.length
  | [], _, h => by
    rw [show _ = [] from h]
    rfl
  | _ :: _, _, ⟨u, r, e1, _, e3⟩ => by
    rw [e1, List.length_cons, List.length_cons, e3.length]
theorem rp_tub : ∀ (H H' : Hp) (k : NestedKey) (v : V), Tub H H' → Rp H k v → Rp H' k v := fun _ _ k v t h => Rp.ts t k v h
theorem flat_tub {α : Type} {f : α → V} : ∀ (H H' : Hp) (k : α) (v : V), Tub H H' → FlatR f H k v → FlatR f H' k v := fun _ _ _ _ _ h => h
theorem tub_lst {H : Hp} {D : Addr} {xs ys : List V} (h : H D = some (.lst xs)) : Tub H (upd H D (.lst ys)) := fun a zs e => by
  rw [upd_ne (ne_of e h fun q => by cases q)]
  exact e
theorem same_lst {H0 H : Hp} {D : Addr} {ys : List V} (s : Same H0 H) (h : H0 D = none) : Same H0 (upd H D (.lst ys)) := fun a o e => by
  rw [upd_ne (ne_of_none e h)]
  exact s a o e
/-- what a turn owes -/
def LcTurn {α : Type} (R : Hp → α → V → Prop) (keep : List (Option α)) (g : TG) (tt : TT) (te : TE) (vs : List Nat) (σ : L2.St) (H1 : Hp) (i : Nat) (x : V) : Prop :=
  ∀ (H : Hp) (C : V → Hp → Prop) (N : Hp → Prop), Same H1 H → (∀ y H4 k, keep[i]? = some (some k) → Same H H4 → R H4 k y → C y H4) → (∀ H3, keep[i]? = some none → Same H H3 → N H3) →
    g x (wipe σ vs) H fun σ2 H2 => wipe σ2 vs = wipe σ vs ∧ tt σ2 H2 fun b H3 => if b = true then te σ2 H3 fun y H4 => C y H4 else N H3
theorem fm_take {α : Type} {keep : List (Option α)} {i : Nat} {o : Option α} (h : keep[i]? = some o) : (keep.take (i + 1)).filterMap id = (keep.take i).filterMap id ++ o.toList := by
  rw [List.take_add_one, List.filterMap_append, h]
  cases o <;> rfl
section
variable {K : PySem.W.Frag} {σ : L2.St} {H1 : Hp} {Q : VK} {D : Ends} {α : Type} {R : Hp → α → V → Prop} {keep : List (Option α)} {g : TG} {tt : TT} {te : TE} {vs : List Nat} {xs : List V} {a : Addr}
theorem lcT_of (ha : H1 a = some (.tup xs)) (hR : ∀ H H' k v, Tub H H' → R H k v → R H' k v) (hk : keep.length = xs.length) (hl : xs.length ≤ 1000000) (turn : ∀ i x, xs[i]? = some x → LcTurn R keep g tt te vs σ H1 i x)
    (fin : ∀ D acc H', Same H1 H' → H1 D = none → H' D = some (.lst acc) → AR R H' (keep.filterMap id) acc → Q (.ref D) H') : LcI (Itt K a) g tt te vs σ H1 Q := by
  intro D hD
  refine ⟨fun i m H => m = xs.length - i ∧ i ≤ xs.length ∧ Same H1 H ∧ ∃ acc, H D = some (.lst acc) ∧ AR R H ((keep.take i).filterMap id) acc, ⟨xs.length, rfl, Nat.zero_le _, same_new hD, [], upd_same, rfl⟩, ?_⟩
  rintro i m H ⟨rfl, hi, hS, acc, hacc, hA⟩
  have q : SqT K H a xs := SqT.of (hS _ _ ha)
  by_cases hlt : i < xs.length
  · refine .inr ⟨⟨xs, xs[i], q, by simp [hlt]⟩, fun H' => Same H1 H' ∧ ∃ acc, H' D = some (.lst acc) ∧ AR R H' ((keep.take (i + 1)).filterMap id) acc, fun H' p' => ⟨xs.length - (i + 1), by omega, rfl, hlt, p'⟩, fun x H' y => ?_⟩
    obtain ⟨e, y⟩ := y
    subst e
    refine turn i x (y xs q) H' _ _ hS (fun z H4 k hki hS4 hz => ?_) fun H3 hki hS3 => ?_
    · have h4 := hS4 _ _ hacc
      have lacc := hA.length
      have lk : ((keep.take i).filterMap id).length ≤ i := Nat.le_trans (List.length_filterMap_le _ _) (by rw [List.length_take]; omega)
      refine ⟨acc, h4, by rw [sizeLine_eq]; omega, same_lst (hS.trans hS4) hD, acc ++ [z], upd_same, ?_⟩
      rw [fm_take hki]
      exact ((hA.tub hR (Tub.of hS4)).snoc hz).tub hR (tub_lst h4)
    · refine ⟨hS.trans hS3, acc, hS3 _ _ hacc, ?_⟩
      rw [fm_take hki]
      simpa using hA.tub hR (Tub.of hS3)
  · have e : i = xs.length := by omega
    subst e
    refine .inl ⟨⟨xs, q, Nat.le_refl _⟩, fin D acc H hS hD hacc ?_⟩
    rw [← hk, List.take_length] at hA
    exact hA
theorem lcR_of {n : Nat} (hR : ∀ H H' k v, Tub H H' → R H k v → R H' k v) (hk : keep.length = n) (hl : n ≤ 1000000) (turn : ∀ i, i < n → LcTurn R keep g tt te vs σ H1 i (.int i))
    (fin : ∀ D acc H', Same H1 H' → H1 D = none → H' D = some (.lst acc) → AR R H' (keep.filterMap id) acc → Q (.ref D) H') : LcI (Itr 0 n) g tt te vs σ H1 Q := by
  intro D hD
  refine ⟨fun i m H => m = n - i ∧ i ≤ n ∧ Same H1 H ∧ ∃ acc, H D = some (.lst acc) ∧ AR R H ((keep.take i).filterMap id) acc, ⟨n, rfl, Nat.zero_le _, same_new hD, [], upd_same, rfl⟩, ?_⟩
  rintro i m H ⟨rfl, hi, hS, acc, hacc, hA⟩
  by_cases hlt : i < n
  · refine .inr ⟨hlt, fun H' => Same H1 H' ∧ ∃ acc, H' D = some (.lst acc) ∧ AR R H' ((keep.take (i + 1)).filterMap id) acc, fun H' p' => ⟨n - (i + 1), by omega, rfl, hlt, p'⟩, fun x H' y => ?_⟩
    obtain ⟨e, y⟩ := y
    subst e
    rw [Int.zero_add] at y
    subst y
    refine turn i hlt H' _ _ hS (fun z H4 k hki hS4 hz => ?_) fun H3 hki hS3 => ?_
    · have h4 := hS4 _ _ hacc
      have lacc := hA.length
      have lk : ((keep.take i).filterMap id).length ≤ i := Nat.le_trans (List.length_filterMap_le _ _) (by rw [List.length_take]; omega)
      refine ⟨acc, h4, by rw [sizeLine_eq]; omega, same_lst (hS.trans hS4) hD, acc ++ [z], upd_same, ?_⟩
      rw [fm_take hki]
      exact ((hA.tub hR (Tub.of hS4)).snoc hz).tub hR (tub_lst h4)
    · refine ⟨hS.trans hS3, acc, hS3 _ _ hacc, ?_⟩
      rw [fm_take hki]
      simpa using hA.tub hR (Tub.of hS3)
  · have e : i = n := by omega
    subst e
    refine .inl ⟨Nat.le_refl _, fin D acc H hS hD hacc ?_⟩
    rw [← hk, List.take_length] at hA
    exact hA
/-- over a tracked list -/
theorem lcL_of (ha : H1 a = some (.lst xs)) (hR : ∀ H H' k v, Tub H H' → R H k v → R H' k v) (hk : keep.length = xs.length) (hl : xs.length ≤ 1000000) (turn : ∀ i x, xs[i]? = some x → LcTurn R keep g tt te vs σ H1 i x)
    (fin : ∀ D acc H', Same H1 H' → H1 D = none → H' D = some (.lst acc) → AR R H' (keep.filterMap id) acc → Q (.ref D) H') : LcI (Itl K a) g tt te vs σ H1 Q := by
  intro D hD
  refine ⟨fun i m H => m = xs.length - i ∧ i ≤ xs.length ∧ Same H1 H ∧ ∃ acc, H D = some (.lst acc) ∧ AR R H ((keep.take i).filterMap id) acc, ⟨xs.length, rfl, Nat.zero_le _, same_new hD, [], upd_same, rfl⟩, ?_⟩
  rintro i m H ⟨rfl, hi, hS, acc, hacc, hA⟩
  have q : SqL K H a xs := SqL.of (hS _ _ ha)
  by_cases hlt : i < xs.length
  · refine .inr ⟨⟨xs, xs[i], q, by simp [hlt]⟩, fun H' => Same H1 H' ∧ ∃ acc, H' D = some (.lst acc) ∧ AR R H' ((keep.take (i + 1)).filterMap id) acc, fun H' p' => ⟨xs.length - (i + 1), by omega, rfl, hlt, p'⟩, fun x H' y => ?_⟩
    obtain ⟨e, y⟩ := y
    subst e
    refine turn i x (y xs q) H' _ _ hS (fun z H4 k hki hS4 hz => ?_) fun H3 hki hS3 => ?_
    · have h4 := hS4 _ _ hacc
      have lacc := hA.length
      have lk : ((keep.take i).filterMap id).length ≤ i := Nat.le_trans (List.length_filterMap_le _ _) (by rw [List.length_take]; omega)
      refine ⟨acc, h4, by rw [sizeLine_eq]; omega, same_lst (hS.trans hS4) hD, acc ++ [z], upd_same, ?_⟩
      rw [fm_take hki]
      exact ((hA.tub hR (Tub.of hS4)).snoc hz).tub hR (tub_lst h4)
    · refine ⟨hS.trans hS3, acc, hS3 _ _ hacc, ?_⟩
      rw [fm_take hki]
      simpa using hA.tub hR (Tub.of hS3)
  · have e : i = xs.length := by omega
    subst e
    refine .inl ⟨⟨xs, q, Nat.le_refl _⟩, fin D acc H hS hD hacc ?_⟩
    rw [← hk, List.take_length] at hA
    exact hA
/-! loops over tracked things: the invariant holds the thing -/
variable {tb : TS}
theorem forT_of (Pv : Nat → L2.St → Hp → Prop) (h0 : Pv 0 σ H1) (hl : ∀ i σ H, i ≤ xs.length → Pv i σ H → H a = some (.tup xs))
    (hs : ∀ i x σ H, xs[i]? = some x → Pv i σ H → g x σ H fun σ2 H2 => tb { D with nx := Pv (i + 1), ct := Pv (i + 1), bk := D.nx } σ2 H2) (hd : ∀ σ H, Pv xs.length σ H → D.nx σ H) : ForI (Itt K a) g tb D σ H1 :=
  for_tup (K := K) (a := a) (xs := xs) Pv h0 (fun i σ H hi p => SqT.of (hl i σ H hi p)) hs hd
theorem forL_of (Pv : Nat → L2.St → Hp → Prop) (h0 : Pv 0 σ H1) (hl : ∀ i σ H, i ≤ xs.length → Pv i σ H → SqL K H a xs)
    (hs : ∀ i x σ H, xs[i]? = some x → Pv i σ H → g x σ H fun σ2 H2 => tb { D with nx := Pv (i + 1), ct := Pv (i + 1), bk := D.nx } σ2 H2) (hd : ∀ σ H, Pv xs.length σ H → D.nx σ H) : ForI (Itl K a) g tb D σ H1 :=
  for_list (K := K) (a := a) (xs := xs) Pv h0 hl hs hd
theorem forR_of {n : Nat} (Pv : Nat → L2.St → Hp → Prop) (h0 : Pv 0 σ H1)
    (hs : ∀ i σ H, i < n → Pv i σ H → g (.int i) σ H fun σ2 H2 => tb { D with nx := Pv (i + 1), ct := Pv (i + 1), bk := D.nx } σ2 H2) (hd : ∀ σ H, Pv n σ H → D.nx σ H) : ForI (Itr 0 n) g tb D σ H1 :=
  for_range (lo := 0) (n := n) Pv h0 (fun i σ H hi p => by rw [Int.zero_add]; exact hs i σ H hi p) hd
theorem forE_of (Pv : Nat → L2.St → Hp → Prop) (h0 : Pv 0 σ H1) (hl : ∀ i σ H, i ≤ xs.length → Pv i σ H → H a = some (.tup xs))
    (hs : ∀ i x σ H T H', xs[i]? = some x → Pv i σ H → Same H H' → H' T = some (.tup [.int (i : Nat), x]) → g (.ref T) σ H' fun σ2 H2 => tb { D with nx := Pv (i + 1), ct := Pv (i + 1), bk := D.nx } σ2 H2) (hd : ∀ σ H, Pv xs.length σ H → D.nx σ H) : ForI (ItE K a) g tb D σ H1 := by
  refine ⟨fun i m σ H => m = xs.length - i ∧ i ≤ xs.length ∧ Pv i σ H, ⟨xs.length, rfl, Nat.zero_le _, h0⟩, ?_⟩
  rintro i m σ H ⟨rfl, hi, p⟩
  have q : SqT K H a xs := SqT.of (hl i σ H hi p)
  by_cases hlt : i < xs.length
  · refine .inr ⟨⟨xs, xs[i], q, by simp [hlt]⟩, Pv (i + 1), fun σ' H' p' => ⟨xs.length - (i + 1), by omega, rfl, hlt, p'⟩, fun x H' y => ?_⟩
    obtain ⟨T, z, rfl, hT, rfl, y⟩ := y
    exact hs i z σ H T _ (y xs q) p (same_new hT) upd_same
  · have e : i = xs.length := by omega
    subst e
    exact .inl ⟨⟨xs, q, Nat.le_refl _⟩, hd σ H p⟩
end
/-! ### machines as trees -/
def eL : Lf → NestedKey
  | .tt => .tup [.text "true"]
  | .ff => .tup [.text "false"]
  | .ls a b => .tup [.text "less", .num a, .num b]
  | .sm a b => .tup [.text "same", .num a, .num b]
  | .em a => .tup [.text "empty", .num a]
def eC : Cn → NestedKey
  | .lf l => eL l
  | .nt l => .tup [.text "not", eL l]
  | .al ls => .tup [.text "all", .tup (ls.map eL)]
  | .an ls => .tup [.text "any", .tup (ls.map eL)]
def eP (p : Int × Int) : NestedKey := .tup [.num p.1, .num p.2]
def eK (c : Cs) : NestedKey := .tup [eC c.cond, .tup (c.moves.map NestedKey.num), .tup (c.says.map eP), .num c.nxt]
def eR (cs : List Cs) : NestedKey := .tup (cs.map eK)
def eRow (row : List (List Cs)) : NestedKey := .tup (row.map eR)
def eS (steps : List (List (List Cs))) : NestedKey := .tup (steps.map eRow)
def eM (m : Mc) : NestedKey := .tup [.num m.tags, .num m.regs, eS m.steps]
def eA1 (p : Int × OI) : NestedKey := .tup [.num p.1, eO p.2]
def eA (a : An) : NestedKey := .tup (a.map eA1)
def eCt (c : Ct) : NestedKey := .tup [.num c.1, eH c.2]
def eJ (J : Jt) : NestedKey := .tup [.num J.1, .num J.2.1, eH J.2.2]
/-! ### all stays but the draws -/
def Dr (d : Addr) (H : Hp) : Prop := ∃ ns : List Int, H d = some (.lst (ns.map V.int))
def Sb (d : Addr) (H H' : Hp) : Prop := ∀ b o, H b = some o → b ≠ d → H' b = some o
structure Fr (d : Addr) (H H' : Hp) : Prop where
  d0 : Dr d H
  sb : Sb d H H'
  d1 : Dr d H'
theorem Fr.trans {d : Addr} {H H1 H2 : Hp} (a : Fr d H H1) (b : Fr d H1 H2) : Fr d H H2 := ⟨a.d0, fun c o e hc => b.sb c o (a.sb c o e hc) hc, b.d1⟩
theorem Fr.refl {d : Addr} {H : Hp} (a : Dr d H) : Fr d H H := ⟨a, fun _ _ e _ => e, a⟩
theorem Dr.up {d : Addr} {H H' : Hp} (a : Dr d H) (s : Same H H') : Dr d H' := ⟨a.choose, s _ _ a.choose_spec⟩
theorem Fr.of {d : Addr} {H H' : Hp} (a : Dr d H) (s : Same H H') : Fr d H H' := ⟨a, fun c o e _ => s c o e, a.up s⟩
theorem Fr.same {d : Addr} {H H1 H2 : Hp} (a : Fr d H H1) (s : Same H1 H2) : Fr d H H2 := a.trans (.of a.d1 s)
theorem Fr.ne {d b : Addr} {H : Hp} {o : HO} (a : Dr d H) (h : H b = some o) (hn : ∀ xs, o ≠ .lst xs) : b ≠ d := fun e => by
  obtain ⟨ns, q⟩ := a
  rw [← e, h] at q
  exact hn _ (Option.some.inj q)
theorem Fr.tub {d : Addr} {H H' : Hp} (a : Fr d H H') : Tub H H' := fun c xs e => a.sb c _ e (Fr.ne a.d0 e fun _ q => by cases q)
theorem Fr.rp {d : Addr} {H H' : Hp} {k : NestedKey} {x : V} (a : Fr d H H') (r : Rp H k x) : Rp H' k x := Rp.ts a.tub k x r
theorem Fr.rps {d : Addr} {H H' : Hp} {k : List NestedKey} {x : List V} (a : Fr d H H') (r : Rps H k x) : Rps H' k x := Rps.ts a.tub k x r
theorem Dr.fresh {d p : Addr} {H : Hp} (a : Dr d H) (h : H p = none) : p ≠ d := fun e => by
  obtain ⟨ns, q⟩ := a
  rw [← e, h] at q
  cases q
theorem Fr.new {d p : Addr} {H H' : Hp} {o : HO} (a : Fr d H H') (h : H p = none) : Fr d H (upd H' p o) :=
  ⟨a.d0, fun b u e hb => by rw [upd_ne (ne_of_none e h)]; exact a.sb b u e hb, a.d1.choose, by rw [upd_ne fun q => a.d0.fresh h q.symm]; exact a.d1.choose_spec⟩
/-! the script's list -/
def Scr (K : PySem.W.Frag) (H : Hp) (a : Addr) (xs : List V) : Prop := (∃ o, H a = some (.frz o (.lst xs))) ∨ ∀ H', SqL K H' a xs
theorem Scr.sq {K : PySem.W.Frag} {H : Hp} {a : Addr} {xs : List V} (h : Scr K H a xs) : SqL K H a xs := by
  rcases h with ⟨o, h⟩ | h
  · exact .inl (.inr ⟨o, h⟩)
  · exact h H
theorem Scr.fr {K : PySem.W.Frag} {d : Addr} {H H' : Hp} {a : Addr} {xs : List V} (h : Scr K H a xs) (f : Fr d H H') : Scr K H' a xs := by
  rcases h with ⟨o, h⟩ | h
  · exact .inl ⟨o, f.sb _ _ h (Fr.ne f.d0 h fun _ q => by cases q)⟩
  · exact .inr h
theorem Scr.up {K : PySem.W.Frag} {H H' : Hp} {a : Addr} {xs : List V} (h : Scr K H a xs) (s : Same H H') : Scr K H' a xs := by
  rcases h with ⟨o, h⟩ | h
  · exact .inl ⟨o, s _ _ h⟩
  · exact .inr h
theorem Scr.only {K : PySem.W.Frag} {H : Hp} {a : Addr} {xs : List V} (hO : Only H) (h : SqL K H a xs) : Scr K H a xs := by
  rcases h with (h | ⟨o, h⟩) | h
  · rcases hO a with q | ⟨o, ys, q⟩
    · rw [q] at h
      cases h
    · rw [q] at h
      cases h
  · exact .inl ⟨o, h⟩
  · exact .inr fun _ => .inr h
/-! a comprehension over a range whose turns draw -/
section
variable {K : PySem.W.Frag} {σ : L2.St} {H1 : Hp} {Q : VK} {α : Type} {R : Hp → α → V → Prop} {p : α → Prop} {g : TG} {tt : TT} {te : TE} {vs : List Nat} {d : Addr}
theorem lcRD_of {n : Nat} (hd : Dr d H1) (hR : ∀ H H' k v, Tub H H' → R H k v → R H' k v) (hl : n ≤ 1000000)
    (turn : ∀ i, i < n → ∀ (H : Hp) (C : V → Hp → Prop) (N : Hp → Prop), Fr d H1 H → (∀ y H4 k, p k → Fr d H H4 → R H4 k y → C y H4) → g (.int i) (wipe σ vs) H fun σ2 H2 => wipe σ2 vs = wipe σ vs ∧ tt σ2 H2 fun b H3 => if b = true then te σ2 H3 fun y H4 => C y H4 else N H3)
    (fin : ∀ D acc ks H', Fr d H1 H' → H1 D = none → H' D = some (.lst acc) → ks.length = n → (∀ k ∈ ks, p k) → AR R H' ks acc → Q (.ref D) H') : LcI (Itr 0 n) g tt te vs σ H1 Q := by
  intro D hD
  have hne := hd.fresh hD
  refine ⟨fun i m H => m = n - i ∧ i ≤ n ∧ Fr d H1 H ∧ ∃ acc ks, H D = some (.lst acc) ∧ ks.length = i ∧ (∀ k ∈ ks, p k) ∧ AR R H ks acc, ⟨n, rfl, Nat.zero_le _, (Fr.refl hd).new hD, [], [], upd_same, rfl, (fun _ h => nomatch h), rfl⟩, ?_⟩
  rintro i m H ⟨rfl, hi, hS, acc, ks, hacc, hkl, hkp, hA⟩
  by_cases hlt : i < n
  · refine .inr ⟨hlt, fun H' => Fr d H1 H' ∧ ∃ acc ks, H' D = some (.lst acc) ∧ ks.length = i + 1 ∧ (∀ k ∈ ks, p k) ∧ AR R H' ks acc, fun H' p' => ⟨n - (i + 1), by omega, rfl, hlt, p'⟩, fun x H' y => ?_⟩
    obtain ⟨e, y⟩ := y
    subst e
    rw [Int.zero_add] at y
    subst y
    refine turn i hlt H' _ _ hS fun z H4 k hk hS4 hz => ?_
    have h4 := hS4.sb _ _ hacc hne
    have lacc := hA.length
    refine ⟨acc, h4, by rw [sizeLine_eq]; omega, (hS.trans hS4).new hD, acc ++ [z], ks ++ [k], upd_same, by rw [List.length_append, hkl]; rfl, fun q hq => ?_, ?_⟩
    · rcases List.mem_append.mp hq with h | h
      · exact hkp q h
      · rw [List.mem_singleton.mp h]
        exact hk
    · exact ((hA.tub hR hS4.tub).snoc hz).tub hR (tub_lst h4)
  · have e : i = n := by omega
    subst e
    exact .inl ⟨Nat.le_refl _, fin D acc ks H hS hD hacc hkl hkp hA⟩
end
theorem AR.of_rps {H : Hp} : ∀ {ks : List NestedKey} {vs : List V}, Rps H ks vs → AR Rp H ks vs
  | [], _, h => h
  | _ :: _, _, ⟨v, r, e1, e2, e3⟩ => ⟨v, r, e1, e2, AR.of_rps e3⟩
/-! an item, any of them -/
theorem any_at {xs : List V} {r : Int} {H : Hp} {Q : V → Prop} (h0 : 0 ≤ r) (h1 : r < xs.length) (q : ∀ x ∈ xs, Q x) : ∃ v, atI xs r = some v ∧ Q v := by
  obtain ⟨n, rfl⟩ : ∃ n : Nat, r = n := ⟨r.toNat, by omega⟩
  have hn : n < xs.length := by omega
  exact ⟨xs[n], by rw [atI_z, List.getElem?_eq_getElem hn], q _ (List.getElem_mem hn)⟩
section
variable {X : Cx} {σ : L2.St} {H : Hp} {Q : VK}
/-! list(range(n)) -/
def tLstRg0 (ta : TE) : TE := fun σ H Q => ta σ H fun x H1 => ∃ n, x = .int n ∧ RgOk 0 n ∧ ∀ q, H1 q = none → Q (.ref q) (upd H1 q (.lst (rgV 0 n)))
theorem pe_lstRg0 {ta : TE} {a : Expr} {p p2 pos pos2 : Pos} (hc : X.calm = true) (hg : Gl X "list") (hm : X.mg "list" = none) (hg2 : Gl X "range") (hm2 : X.mg "range" = none) (ha : PE X a ta)
    (na : starEach [a] X.env = (false, eval a X.env) :: starEach [] X.env := by rfl) (na2 : starEach [.Call (.Name "range" p2) [a] [] pos2] X.env = (false, eval (.Call (.Name "range" p2) [a] [] pos2) X.env) :: starEach [] X.env := by rfl) :
    PE X (.Call (.Name "list" p) [.Call (.Name "range" p2) [a] [] pos2] [] pos) (tLstRg0 ta) := pe_imp (pe_listRg hc hg hm (prg_1 hg2 hm2 ha na) na2) fun σ H Q h => h
theorem u_lstRg {ta : TE} : tLstRg0 ta σ H Q = ta σ H fun x H1 => ∃ n, x = .int n ∧ RgOk 0 n ∧ NewL H1 (rgV 0 n) Q := rfl
/-! trees that a text writes down: with what the names hold -/
def tTr (vs : List (Nat × NestedKey)) (k : NestedKey) : TE := fun σ H Q => (∀ p ∈ vs, ∃ v, σ[p.1]? = some (some v) ∧ Rp H p.2 v) ∧ ∀ y H', Same H H' → Rp H' k y → Q y H'
def tTrs (vs : List (Nat × NestedKey)) (ks : List NestedKey) : TA := fun σ H Q => (∀ p ∈ vs, ∃ v, σ[p.1]? = some (some v) ∧ Rp H p.2 v) ∧ ∀ ys H', Same H H' → Rps H' ks ys → Q ys H'
theorem pa_imp {es : List Expr} {t t' : TA} (h : PA X es t) (i : ∀ σ H Q, t' σ H Q → t σ H Q) : PA X es t' := ⟨fun pos pins s σ H Q I q => h.run pos pins s σ H Q I (i σ H Q q)⟩
variable {vs : List (Nat × NestedKey)}
theorem pr_int {i j pos} : PE X (.Constant (.int i) j pos) (tTr vs (.num i)) := pe_imp pe_int fun σ H Q h => h.2 _ H (Same.refl H) rfl
theorem pr_str {x j pos} : PE X (.Constant (.str x) j pos) (tTr vs (.text x)) := pe_imp pe_str fun σ H Q h => h.2 _ H (Same.refl H) rfl
theorem pr_neg {i j pos pos2} : PE X (.UnaryOp .USub (.Constant (.int i) j pos) pos2) (tTr vs (.num (-i))) := pe_imp (pe_un un_neg pe_int) fun σ H Q h => ⟨i, rfl, h.2 _ H (Same.refl H) rfl⟩
theorem pr_var {e : Expr} {i : Nat} {k : NestedKey} (h : PE X e (tVar i)) (hv : (i, k) ∈ vs) : PE X e (tTr vs k) := pe_imp h fun σ H Q q => by
  obtain ⟨v, e, r⟩ := q.1 _ hv
  exact ⟨v, e, q.2 v H (Same.refl H) r⟩
theorem pr_nil : PA X [] (tTrs vs []) := pa_imp pa_nil fun σ H Q h => h.2 _ H (Same.refl H) rfl
theorem pr_cons {e : Expr} {es : List Expr} {k : NestedKey} {ks : List NestedKey} (ha : PE X e (tTr vs k)) (hr : PA X es (tTrs vs ks)) (hs : starEach (e :: es) X.env = (false, eval e X.env) :: starEach es X.env := by rfl) : PA X (e :: es) (tTrs vs (k :: ks)) :=
  pa_imp (pa_cons ha hr hs) fun σ H Q h => ⟨h.1, fun y H1 s1 r1 => ⟨fun p hp => by obtain ⟨v, e1, e2⟩ := h.1 p hp; exact ⟨v, e1, e2.up s1⟩, fun ys H2 s2 r2 => h.2 _ H2 (s1.trans s2) ⟨y, ys, rfl, r1.up s2, r2⟩⟩⟩
theorem pr_tup {es : List Expr} {j : Nat} {pos : Pos} {ks : List NestedKey} (h : PA X es (tTrs vs ks)) (hl : ks.length ≤ 1000000 := by decide) : PE X (.Tuple es j pos) (tTr vs (.tup ks)) :=
  pe_imp (pe_tup h) fun σ H Q q => ⟨q.1, fun ys H' s r => ⟨by rw [r.length, sizeLine_eq]; omega, fun p hp => q.2 _ _ (s.trans (same_new hp)) ⟨p, ys, rfl, upd_same, r.up (same_new hp)⟩⟩⟩
end
/-! ### the class -/
structure Tc (K : PySem.W.Frag) (C : Addr) : Prop where
  cl : Cls K C
  n_one : NoAttr K C "one"
  n_other : NoAttr K C "other"
  n_closed : NoAttr K C "closed"
def Dm (K : PySem.W.Frag) (C : Addr) (m qual : PySem.Str) (st : Stmt) : Prop := ∃ f fd, FunD K m qual (defArgs st) (defBody st) (defScope st) [] [] f fd ∧ Cls K C ∧ Meth K C m f
def MCal (P : Program) (w : World) (K : PySem.W.Frag) (mg : PySem.Str → Option Value) (base : Heap) (C : Addr) (m : PySem.Str) (k : Nat) (ps : List PySem.Str) (sp : Sp) : Prop :=
  ∃ f fd, FnOk P w K mg base CX0 k f fd ps sp ∧ Cls K C ∧ Meth K C m f ∧ Binds K fd ps []
def Dk (K : PySem.W.Frag) (mg : PySem.Str → Option Value) (C : Addr) (x qual : PySem.Str) (st : Stmt) : Prop := ∃ f fd, FunD K "__init__" qual (defArgs st) (defBody st) (defScope st) [] [] f fd ∧ Mk K C f ∧ mg x = some (.ref C)
def KCal (P : Program) (w : World) (K : PySem.W.Frag) (mg : PySem.Str → Option Value) (base : Heap) (C : Addr) (x : PySem.Str) (k : Nat) (ps : List PySem.Str) (sp : Sp) : Prop :=
  ∃ f fd, FnOk P w K mg base CX0 k f fd ps sp ∧ Mk K C f ∧ mg x = some (.ref C) ∧ Binds K fd ps []
section
variable {P : Program} {w : World} {K : PySem.W.Frag} {mg : PySem.Str → Option Value} {base : Heap} {C : Addr} {x m qual : PySem.Str} {st : Stmt} {N ps : List PySem.Str} {k : Nat} {sp : Sp}
theorem Dm.cal (D : Dm K C m qual st) (S : FnScope N ps (defScope st)) (len : ∀ vs H Q E, sp vs H Q E → vs.length = ps.length)
    (bnd : ∀ (kV doc pm : Value) (an : Option Addr) (cdv ct : Value) (us : List Value), us.length = ps.length → bindArgs (PySem.W.fnOf m qual (defArgs st) (defBody st) (defScope st) .none kV doc pm an cdv ct) ⟨us, []⟩ = pure (ps.zip us))
    (hbody : ∀ (f : Addr) (cdv : Value) (A : Around) (outer : List Env) (s : Shared) (H : Hp) (vs : List V) (Q : VK) (E : XK), Room k (A.deeper (envOfC qual (defScope st) s.heap.objs.size f cdv)) → sp vs H Q E →
      ∃ t, PSs (cxOf CX0 P w K mg base N qual (defScope st) f cdv A outer s H E).nox (defBody st) t ∧ t { nx := fun _ H' => Q .non H', rt := Q } (start N vs) H) : MCal P w K mg base C m (k + 1) ps sp := by
  obtain ⟨f, fd, F, c, me⟩ := D
  refine ⟨f, fd, F.ok S len fun cdv A outer s H vs Q E hr h => ?_, c, me, F.bindsN bnd⟩
  obtain ⟨t, h1, h2⟩ := hbody f cdv A outer s H vs Q E hr h
  exact ⟨t, h1.nox, h2⟩
theorem Dk.cal (D : Dk K mg C x qual st) (S : FnScope N ps (defScope st)) (len : ∀ vs H Q E, sp vs H Q E → vs.length = ps.length)
    (bnd : ∀ (kV doc pm : Value) (an : Option Addr) (cdv ct : Value) (us : List Value), us.length = ps.length → bindArgs (PySem.W.fnOf "__init__" qual (defArgs st) (defBody st) (defScope st) .none kV doc pm an cdv ct) ⟨us, []⟩ = pure (ps.zip us))
    (hbody : ∀ (f : Addr) (cdv : Value) (A : Around) (outer : List Env) (s : Shared) (H : Hp) (vs : List V) (Q : VK) (E : XK), Room k (A.deeper (envOfC qual (defScope st) s.heap.objs.size f cdv)) → sp vs H Q E →
      ∃ t, PSs (cxOf CX0 P w K mg base N qual (defScope st) f cdv A outer s H E).nox (defBody st) t ∧ t { nx := fun _ H' => Q .non H', rt := Q } (start N vs) H) : KCal P w K mg base C x (k + 1) ps sp := by
  obtain ⟨f, fd, F, M, hm⟩ := D
  refine ⟨f, fd, F.ok S len fun cdv A outer s H vs Q E hr h => ?_, M, hm, F.bindsN bnd⟩
  obtain ⟨t, h1, h2⟩ := hbody f cdv A outer s H vs Q E hr h
  exact ⟨t, h1.nox, h2⟩
end
def insF (C : Addr) : HO → Option (List (PySem.Str × V))
  | .ins C' _ fs => if C' = C then some fs else none
  | _ => none
theorem insF_mk {C dx : Addr} {fs : List (PySem.Str × V)} : insF C (.ins C dx fs) = some fs := if_pos rfl
theorem insF_of {C : Addr} {o : HO} {fs : List (PySem.Str × V)} (h : insF C o = some fs) : ∃ dx, o = .ins C dx fs := by
  cases o with
  | ins C' dx gs =>
    by_cases e : C' = C
    · rw [show insF C (.ins C' dx gs) = some gs from if_pos e] at h
      cases h
      exact ⟨dx, by rw [e]⟩
    · rw [show insF C (.ins C' dx gs) = none from if_neg e] at h
      cases h
  | _ => cases h
def tFldP (C : Addr) (ta : TE) (f : PySem.Str) : TE := fun σ H Q => ta σ H fun x H1 => ∃ a, x = .ref a ∧ ∃ o, H1 a = some o ∧ ∃ fs, insF C o = some fs ∧ ∃ v, fs.lookup f = some v ∧ Q v H1
def sFldP (C : Addr) (ta tv : TE) (f : PySem.Str) : TS := fun D σ H => tv σ H fun y H1 => ta σ H1 fun x H2 => ∃ a, x = .ref a ∧ ∃ dx fs, H2 a = some (.ins C dx fs) ∧ fs.length < 1000 ∧ D.nx σ (upd H2 a (.ins C dx (putF f y fs)))
def tMethP (C : Addr) (m : PySem.Str) (sp : Sp) (ta : TE) (t : TA) : TE := fun σ H Q => ta σ H fun x H1 => ∃ a, x = .ref a ∧ ∃ o, H1 a = some o ∧ ∃ fs, insF C o = some fs ∧ fs.lookup m = none ∧ t σ H1 fun vs H2 => sp (.ref a :: vs) H2 Q E0
section
variable {X : Cx} {C : Addr} {f m : PySem.Str} {o e value : Expr} {es : List Expr} {ta tv : TE} {t : TA} {pos pos' apos : Pos}
theorem pe_fldP (c : Cls X.K C) (n : NoAttr X.K C f) (he : PE X e ta) (hb : attributeBase e f X.env (eval e X.env) = eval e X.env := by rfl) : PE X (.Attribute e f pos) (tFldP C ta f) := by
  refine ⟨fun pins s σ H Q I h => ?_⟩
  refine attr_of hb (thn (he.run pins s σ H _ I h) fun u s1 ⟨x, H1, I1, rx, a, ex, ob, eo, fs, ef, v, l, q⟩ => ?_)
  obtain ⟨dx, rfl⟩ := insF_of ef
  have ea := eo
  subst ex
  obtain rfl : u = Value.ref a := rx
  exact getattr_ok I1 ea c n l fun u' s2 I2 ru => ⟨v, H1, I2, ru, q⟩
theorem ps_fldP (c : Cls X.K C) (n : NoAttr X.K C f) (ha : PE X o ta) (hv : PE X value tv) (hs : swapsWith value (some (.Attribute o f pos')) pos.line X.env = pure false := by rfl) : PS X (.Assign [.Attribute o f pos'] value pos) (sFldP C ta tv f) := by
  refine ⟨fun pins s σ H D I h => ?_⟩
  refine plainObj_wpAny_Assign_Attribute (thn (hv.run pins s σ H _ I h) fun u s1 ⟨y, H1, I1, ry, q⟩ => thn (ha.run pins s1 σ H1 _ I1 q) fun ov s2 ⟨x, H2, I2, rx, a, ex, dx, fs, ea, l, q2⟩ => ?_) hs
  subst ex
  obtain rfl : ov = Value.ref a := rx
  exact setattr_ok I2 ea c n l ry fun s3 I3 => ⟨σ, _, I3, q2⟩
theorem pe_mcal {pl : Sem Bool} {k j : Nat} {ps : List PySem.Str} {sp : Sp} (M : MCal X.prog X.w X.K X.mg X.base C m k ps sp) (hr : Room j X.A) (he : PE X o ta) (ha : PA X (e :: es) t) (hkj : k ≤ j := by first | decide | omega)
    (hst : starEach (e :: es) X.env = (false, eval e X.env) :: starEach es X.env := by rfl) (hpl : (backTo pos (starEach es X.env)).any (·.1) = false := by rfl)
    (ht : eval (.Call (.Attribute o m apos) (e :: es) [] pos) X.env = (do
      let ov ← eval o X.env
      standAt apos.atName
      let (f, first) ← holding [ov] (getMethod ov m pl)
      callWith pos f first (backTo pos (starEach (e :: es) X.env)) (backToKw pos (keywordEach [] X.env))) := by rfl) :
    PE X (.Call (.Attribute o m apos) (e :: es) [] pos) (tMethP C m sp ta t) := by
  obtain ⟨f, fd, F, c, hm, hb⟩ := M
  refine ⟨fun pins s σ H Q I h => ?_⟩
  refine PySem.W.methodCall_KW (pl := pl) (thn (he.run pins s σ H _ I h) fun u s1 ⟨x, H1, I1, rx, a, ex, ob, eo, fs, ef, l, q⟩ => ?_) ht
  obtain ⟨dx, rfl⟩ := insF_of ef
  have ea := eo
  subst ex
  obtain rfl : u = Value.ref a := rx
  refine getmeth_ok I1 ea c hm l ?_
  refine PySem.W.callWith_K (first := [.ref a]) (h₀ := X.base) I.ok.mod.kin hm.kp (thn (ha.run pos pins s1 σ H1 _ I1 q) fun us s2 ⟨vs, H2, I2, r, q2⟩ => ⟨I2.kIn, ?_⟩) hst hpl
  exact run_fn (us := .ref a :: us) (vs := .ref a :: vs) (F.mono hkj) hr hb .nil pass0 I2 (.cons rfl r) (by rw [List.append_nil]; exact q2)
theorem pe_kmk {x : PySem.Str} {p : Pos} {k j : Nat} {ps : List PySem.Str} {sp : Sp} (M : KCal X.prog X.w X.K X.mg X.base C x k ps sp) (hr : Room j X.A) (ha : PA X (e :: es) t) (hkj : k + 1 ≤ j := by first | decide | omega) (hg : Gl X x := by rfl)
    (hdb : (x == ("__debug__" : PySem.Str)) = false := by decide) (he : starEach (e :: es) X.env = (false, eval e X.env) :: starEach es X.env := by rfl) (hpl : (backTo pos (starEach es X.env)).any (·.1) = false := by rfl) :
    PE X (.Call (.Name x p) (e :: es) [] pos) (tMake C sp [] E0 t) := by
  obtain ⟨f, fd, F, M, hm, hb⟩ := M
  exact pe_make M F (hr.mono hkj) hg hm hb .nil pass0 ha hdb he hpl
end
section
variable {σ : L2.St} {H : Hp} {Q : VK} {D : Ends} {C : Addr} {ta tv : TE} {t : TA} {f : PySem.Str}
theorem u_fld : tFldP C ta f σ H Q = ta σ H fun x H1 => ∃ a, x = .ref a ∧ ∃ o, H1 a = some o ∧ ∃ fs, insF C o = some fs ∧ ∃ v, fs.lookup f = some v ∧ Q v H1 := rfl
theorem u_sfld : sFldP C ta tv f D σ H = tv σ H fun y H1 => ta σ H1 fun x H2 => ∃ a, x = .ref a ∧ ∃ dx fs, H2 a = some (.ins C dx fs) ∧ fs.length < 1000 ∧ D.nx σ (upd H2 a (.ins C dx (putF f y fs))) := rfl
theorem u_meth {m : PySem.Str} {sp : Sp} : tMethP C m sp ta t σ H Q = ta σ H fun x H1 => ∃ a, x = .ref a ∧ ∃ o, H1 a = some o ∧ ∃ fs, insF C o = some fs ∧ fs.lookup m = none ∧ t σ H1 fun vs H2 => sp (.ref a :: vs) H2 Q E0 := rfl
theorem u_mk {sp : Sp} : tMake C sp [] E0 t σ H Q = t σ H fun vs H1 => ∀ x dx, H1 x = none → H1 dx = none → dx ≠ x → sp (.ref x :: (vs ++ [])) (upd (upd H1 dx (.own x)) x (.ins C dx [])) (fun v H2 => v = .non ∧ Q (.ref x) H2) E0 := rfl
end
/-- a pair of one machine -/
def flds (x : V) (D : Addr) : List (PySem.Str × V) := [("one", x), ("other", x), ("closed", .ref D)]
def PairI (C : Addr) (H : Hp) (a : Addr) (x : V) (D : Addr) : Prop := ∃ dx, H a = some (.ins C dx (flds x D))
theorem lk_one {x : V} {D : Addr} : List.lookup ("one" : PySem.Str) (flds x D) = some x := rfl
theorem lk_other {x : V} {D : Addr} : List.lookup ("other" : PySem.Str) (flds x D) = some x := rfl
theorem lk_closed {x : V} {D : Addr} : List.lookup ("closed" : PySem.Str) (flds x D) = some (.ref D) := rfl
theorem lk_jt {x : V} {D : Addr} : List.lookup ("joint_type" : PySem.Str) (flds x D) = none := rfl
theorem lk_con {x : V} {D : Addr} : List.lookup ("contents" : PySem.Str) (flds x D) = none := rfl
theorem lk_aft {x : V} {D : Addr} : List.lookup ("after" : PySem.Str) (flds x D) = none := rfl
theorem lk_par {x : V} {D : Addr} : List.lookup ("is_parted" : PySem.Str) (flds x D) = none := rfl
theorem PairI.up {C a D : Addr} {H H' : Hp} {x : V} (h : PairI C H a x D) (s : Same H H') : PairI C H' a x D := ⟨h.choose, s _ _ h.choose_spec⟩
theorem ne_true_false : (("true" : PySem.Str) = "false") = False := eq_false (by decide +kernel)
theorem ne_true_not : (("true" : PySem.Str) = "not") = False := eq_false (by decide +kernel)
theorem ne_true_all : (("true" : PySem.Str) = "all") = False := eq_false (by decide +kernel)
theorem ne_true_any : (("true" : PySem.Str) = "any") = False := eq_false (by decide +kernel)
theorem ne_true_empty : (("true" : PySem.Str) = "empty") = False := eq_false (by decide +kernel)
theorem ne_true_less : (("true" : PySem.Str) = "less") = False := eq_false (by decide +kernel)
theorem ne_false_true : (("false" : PySem.Str) = "true") = False := eq_false (by decide +kernel)
theorem ne_false_not : (("false" : PySem.Str) = "not") = False := eq_false (by decide +kernel)
theorem ne_false_all : (("false" : PySem.Str) = "all") = False := eq_false (by decide +kernel)
theorem ne_false_any : (("false" : PySem.Str) = "any") = False := eq_false (by decide +kernel)
theorem ne_false_empty : (("false" : PySem.Str) = "empty") = False := eq_false (by decide +kernel)
theorem ne_false_less : (("false" : PySem.Str) = "less") = False := eq_false (by decide +kernel)
theorem ne_less_true : (("less" : PySem.Str) = "true") = False := eq_false (by decide +kernel)
theorem ne_less_false : (("less" : PySem.Str) = "false") = False := eq_false (by decide +kernel)
theorem ne_less_not : (("less" : PySem.Str) = "not") = False := eq_false (by decide +kernel)
theorem ne_less_all : (("less" : PySem.Str) = "all") = False := eq_false (by decide +kernel)
theorem ne_less_any : (("less" : PySem.Str) = "any") = False := eq_false (by decide +kernel)
theorem ne_less_empty : (("less" : PySem.Str) = "empty") = False := eq_false (by decide +kernel)
theorem ne_same_true : (("same" : PySem.Str) = "true") = False := eq_false (by decide +kernel)
theorem ne_same_false : (("same" : PySem.Str) = "false") = False := eq_false (by decide +kernel)
theorem ne_same_not : (("same" : PySem.Str) = "not") = False := eq_false (by decide +kernel)
theorem ne_same_all : (("same" : PySem.Str) = "all") = False := eq_false (by decide +kernel)
theorem ne_same_any : (("same" : PySem.Str) = "any") = False := eq_false (by decide +kernel)
theorem ne_same_empty : (("same" : PySem.Str) = "empty") = False := eq_false (by decide +kernel)
theorem ne_same_less : (("same" : PySem.Str) = "less") = False := eq_false (by decide +kernel)
theorem ne_empty_true : (("empty" : PySem.Str) = "true") = False := eq_false (by decide +kernel)
theorem ne_empty_false : (("empty" : PySem.Str) = "false") = False := eq_false (by decide +kernel)
theorem ne_empty_not : (("empty" : PySem.Str) = "not") = False := eq_false (by decide +kernel)
theorem ne_empty_all : (("empty" : PySem.Str) = "all") = False := eq_false (by decide +kernel)
theorem ne_empty_any : (("empty" : PySem.Str) = "any") = False := eq_false (by decide +kernel)
theorem ne_empty_less : (("empty" : PySem.Str) = "less") = False := eq_false (by decide +kernel)
theorem ne_not_true : (("not" : PySem.Str) = "true") = False := eq_false (by decide +kernel)
theorem ne_not_false : (("not" : PySem.Str) = "false") = False := eq_false (by decide +kernel)
theorem ne_not_all : (("not" : PySem.Str) = "all") = False := eq_false (by decide +kernel)
theorem ne_not_any : (("not" : PySem.Str) = "any") = False := eq_false (by decide +kernel)
theorem ne_not_empty : (("not" : PySem.Str) = "empty") = False := eq_false (by decide +kernel)
theorem ne_not_less : (("not" : PySem.Str) = "less") = False := eq_false (by decide +kernel)
theorem ne_all_true : (("all" : PySem.Str) = "true") = False := eq_false (by decide +kernel)
theorem ne_all_false : (("all" : PySem.Str) = "false") = False := eq_false (by decide +kernel)
theorem ne_all_not : (("all" : PySem.Str) = "not") = False := eq_false (by decide +kernel)
theorem ne_all_any : (("all" : PySem.Str) = "any") = False := eq_false (by decide +kernel)
theorem ne_all_empty : (("all" : PySem.Str) = "empty") = False := eq_false (by decide +kernel)
theorem ne_all_less : (("all" : PySem.Str) = "less") = False := eq_false (by decide +kernel)
theorem ne_any_true : (("any" : PySem.Str) = "true") = False := eq_false (by decide +kernel)
theorem ne_any_false : (("any" : PySem.Str) = "false") = False := eq_false (by decide +kernel)
theorem ne_any_not : (("any" : PySem.Str) = "not") = False := eq_false (by decide +kernel)
theorem ne_any_all : (("any" : PySem.Str) = "all") = False := eq_false (by decide +kernel)
theorem ne_any_empty : (("any" : PySem.Str) = "empty") = False := eq_false (by decide +kernel)
theorem ne_any_less : (("any" : PySem.Str) = "less") = False := eq_false (by decide +kernel)
section
variable {P : Program} {w : World} {K : PySem.W.Frag} {mg : PySem.Str → Option Value} {base : Heap}

def spVal : Sp := fun vs H Q _ => ∃ (src v : Int) (held : List OI) (a : Addr), vs = [.int src, .int v, .ref a] ∧ H a = some (.tup (held.map vO)) ∧ okS held.length src ∧ Q (vO (at1 src v held)) H
theorem val_at {held : List OI} {src : Int} (h : okS held.length src) (h1 : ¬ src = -1) (h2 : ¬ src = -2) (v : Int) : atI (held.map vO) src = some (vO (at1 src v held)) := by
  obtain ⟨a, b⟩ := h
  obtain ⟨n, rfl⟩ : ∃ n : Nat, src = n := ⟨src.toNat, by omega⟩
  have hn : n < held.length := by omega
  rw [atI_z, List.getElem?_map, List.getElem?_eq_getElem hn]
  unfold at1
  rw [if_neg h1, if_neg h2, Int.toNat_natCast, List.getElem?_eq_getElem hn]
  rfl
abbrev N_value_at : List PySem.Str := ["source", "value", "held"]
theorem sc_value_at : FnScope N_value_at ["source", "value", "held"] (defScope s_value_at) := ⟨rfl, rfl, rfl, by decide +kernel, rfl, by decide +kernel, by decide +kernel⟩
theorem c_value_at (D : Df K mg "value_at" s_value_at) (T : Tx K mg) : Cal P w K mg base "value_at" 1 ["source", "value", "held"] spVal := by
  refine D.cal sc_value_at (by rintro vs H Q E ⟨_, _, _, _, rfl, _⟩; rfl) (fun _ _ _ _ _ _ us hl => match us, hl with | [_, _, _], _ => rfl) fun f cdv A outer s H vs Q E hr h => ?_
  have hu : (A.deeper (envOfC "value_at" (defScope s_value_at) s.heap.objs.size f cdv)).units + 64 < cLine := hr.units
  obtain ⟨src, v, held, a, rfl, ha, hs, q⟩ := h
  refine ⟨_, (pss_cons (ps_if (pt_cmpR op_eq (pv 0) (pe_gInt T.read) (nomark _)) (pss_one (ps_ret (pv 1))) pss_nil)
    (pss_one (ps_ret (pe_ifExp (pt_cmpR op_eq (pv 0) (pe_gInt T.nothing) (nomark _)) pe_non (pe_ix ixT (pv 2) (pv 0) (fun _ _ => rfl)))))), ?_⟩
  wp_walk using ha
  refine ite2 (fun h1 => ?_) fun h1 => ite2 (fun h2 => ?_) fun h2 => ?_
  · unfold at1 at q
    rwa [if_pos h1] at q
  · unfold at1 at q
    rwa [if_neg h1, if_pos h2] at q
  · exact ⟨_, val_at hs h1 h2 v, q⟩

def isLf : Cn → Prop
  | .lf _ => True
  | _ => False
def spH (kind : Cn → Prop) : Sp := fun vs H Q _ => ∃ (c : Cn) (v : Int) (held : List OI) (x : V) (a : Addr), vs = [x, .int v, .ref a] ∧ kind c ∧ Rp H (eC c) x ∧ H a = some (.tup (held.map vO)) ∧ okC held.length c ∧ ∀ H', Same H H' → Q (.bl (evC v held c)) H'
theorem rp_1 {H : Hp} {k : NestedKey} {x : V} (h : Rp H (.tup [k]) x) : ∃ p u, x = .ref p ∧ H p = some (.tup [u]) ∧ Rp H k u := by
  obtain ⟨p, vs, e1, e2, u, r, e3, e4, e5⟩ := h
  rw [e3, show r = [] from e5] at e2
  exact ⟨p, u, e1, e2, e4⟩
theorem rp_2 {H : Hp} {k l : NestedKey} {x : V} (h : Rp H (.tup [k, l]) x) : ∃ p u v, x = .ref p ∧ H p = some (.tup [u, v]) ∧ Rp H k u ∧ Rp H l v := by
  obtain ⟨p, vs, e1, e2, u, r, e3, e4, v, r2, e5, e6, e7⟩ := h
  rw [e3, e5, show r2 = [] from e7] at e2
  exact ⟨p, u, v, e1, e2, e4, e6⟩
theorem rp_3 {H : Hp} {k l m : NestedKey} {x : V} (h : Rp H (.tup [k, l, m]) x) : ∃ p u v t, x = .ref p ∧ H p = some (.tup [u, v, t]) ∧ Rp H k u ∧ Rp H l v ∧ Rp H m t := by
  obtain ⟨p, vs, e1, e2, u, r, e3, e4, v, r2, e5, e6, t, r3, e7, e8, e9⟩ := h
  rw [e3, e5, e7, show r3 = [] from e9] at e2
  exact ⟨p, u, v, t, e1, e2, e4, e6, e8⟩
theorem rp_4 {H : Hp} {k l m n : NestedKey} {x : V} (h : Rp H (.tup [k, l, m, n]) x) : ∃ p u v t s, x = .ref p ∧ H p = some (.tup [u, v, t, s]) ∧ Rp H k u ∧ Rp H l v ∧ Rp H m t ∧ Rp H n s := by
  obtain ⟨p, vs, e1, e2, u, r, e3, e4, v, r2, e5, e6, t, r3, e7, e8, s, r4, e9, e10, e11⟩ := h
  rw [e3, e5, e7, e9, show r4 = [] from e11] at e2
  exact ⟨p, u, v, t, s, e1, e2, e4, e6, e8, e10⟩
theorem rp_tup {H : Hp} {ks : List NestedKey} {x : V} (h : Rp H (.tup ks) x) : ∃ p vs, x = .ref p ∧ H p = some (.tup vs) ∧ Rps H ks vs := h
theorem rp_text {H : Hp} {z : PySem.Str} {x : V} (h : Rp H (.text z) x) : x = .str z := h
theorem rp_num {H : Hp} {z : Int} {x : V} (h : Rp H (.num z) x) : x = .int z := h
theorem okP_S {r : Nat} {a : Int} (h : okP r a) : okS r a := ⟨by have := h.1; omega, h.2⟩
theorem vO_non (o : OI) : decide (vO o = .non) = o.isNone := by
  cases o with
  | none => rfl
  | some x => exact decide_eq_false fun q => nomatch q
abbrev N_holds : List PySem.Str := ["condition", "value", "held", "kind", "one", "other", "part"]
theorem sc_holds : FnScope N_holds ["condition", "value", "held"] (defScope s_holds) := ⟨rfl, rfl, rfl, by decide +kernel, rfl, by decide +kernel, by decide +kernel⟩
theorem c_holds (D : Df K mg "holds" s_holds) (T : Tx K mg) {kind : Cn → Prop} {R : Sp} {j : Nat} (hR : ∀ c, kind c → isLf c ∨ ∀ vs H Q E, spH isLf vs H Q E → R vs H Q E) (C_value_at : Cal P w K mg base "value_at" 1 ["source", "value", "held"] spVal) (C_holds : Cal P w K mg base "holds" j ["condition", "value", "held"] R) : Cal P w K mg base "holds" (j + 1 + 1) ["condition", "value", "held"] (spH kind) := by
  refine D.cal sc_holds (by rintro vs H Q E ⟨_, _, _, _, _, rfl, _⟩; rfl) (fun _ _ _ _ _ _ us hl => match us, hl with | [_, _, _], _ => rfl) fun f cdv A outer s H vs Q E hr h => ?_
  have hu : (A.deeper (envOfC "holds" (defScope s_holds) s.heap.objs.size f cdv)).units + 64 < cLine := hr.units
  obtain ⟨c, v, held, x, a, rfl, hkind, hx, ha, hok, q⟩ := h
  have q0 : Q (.bl (evC v held c)) H := q H (Same.refl H)
  refine ⟨_, (pss_cons (ps_set (i := 3) sc_holds.nd rfl (Or.inl rfl) (pe_ix ixT (pv 0) pe_int (fun _ _ => rfl)))
    (pss_cons (ps_if (PW.pt (pw_or (pt_cmpR op_eq (pv 3) pe_str (nomark _)) (pw_or1 (pt_cmpR op_eq (pv 3) pe_str (nomark _))))) (pss_one (ps_ret (pe_cmpR op_eq (pv 3) pe_str (nomark _)))) pss_nil)
    (pss_cons (ps_if (pt_cmpR op_eq (pv 3) pe_str (nomark _)) (pss_one (ps_ret (pe_not (pe_cal C_holds hr (pa_cons (pe_ix ixT (pv 0) pe_int (fun _ _ => rfl)) (pa_cons (pv 1) (pa_cons (pv 2) pa_nil))))))) pss_nil)
    (pss_cons (ps_if (pt_cmpR op_eq (pv 3) pe_str (nomark _)) (pss_one (ps_ret (pe_callB (cr_all rfl) (by rfl) T.nall (by decide +kernel) (pa_cons (pe_lc (own := [("part", 6)]) rfl sc_holds.nd (pi_tup (pe_ix ixT (pv 0) pe_int (fun _ _ => rfl))) (blkOk_by (own := [("part", 6)]) (N := N_holds) (sc := defScope s_holds) (by decide +kernel)) (fun _ _ _ _ _ => (pg_name (i := 6) sc_holds.nd rfl (Or.inl rfl))) (fun _ _ _ _ _ => pts_nil) (fun _ _ _ _ _ => (pe_cal C_holds hr (pa_cons (pv 6) (pa_cons (pv 1) (pa_cons (pv 2) pa_nil)))))) pa_nil)))) pss_nil)
    (pss_cons (ps_if (pt_cmpR op_eq (pv 3) pe_str (nomark _)) (pss_one (ps_ret (pe_callB (cr_any rfl) (by rfl) T.nany (by decide +kernel) (pa_cons (pe_lc (own := [("part", 6)]) rfl sc_holds.nd (pi_tup (pe_ix ixT (pv 0) pe_int (fun _ _ => rfl))) (blkOk_by (own := [("part", 6)]) (N := N_holds) (sc := defScope s_holds) (by decide +kernel)) (fun _ _ _ _ _ => (pg_name (i := 6) sc_holds.nd rfl (Or.inl rfl))) (fun _ _ _ _ _ => pts_nil) (fun _ _ _ _ _ => (pe_cal C_holds hr (pa_cons (pv 6) (pa_cons (pv 1) (pa_cons (pv 2) pa_nil)))))) pa_nil)))) pss_nil)
    (pss_cons (ps_set (i := 4) sc_holds.nd rfl (Or.inl rfl) (pe_cal C_value_at hr (pa_cons (pe_ix ixT (pv 0) pe_int (fun _ _ => rfl)) (pa_cons (pv 1) (pa_cons (pv 2) pa_nil)))))
    (pss_cons (ps_if (pt_cmpR op_eq (pv 3) pe_str (nomark _)) (pss_one (ps_ret (pe_cmp (pc_isN (pv 4)) rfl))) pss_nil)
    (pss_cons (ps_set (i := 5) sc_holds.nd rfl (Or.inl rfl) (pe_cal C_value_at hr (pa_cons (pe_ix ixT (pv 0) pe_int (fun _ _ => rfl)) (pa_cons (pv 1) (pa_cons (pv 2) pa_nil)))))
    (pss_cons (ps_if (PW.pt (pw_or (pt_cmp (pc_isN (pv 4)) rfl) (pw_or1 (pt_cmp (pc_isN (pv 5)) rfl)))) (pss_one (ps_ret pe_bl)) pss_nil)
    (pss_one (ps_ret (pe_ifExp (pt_cmpR op_eq (pv 3) pe_str (nomark _)) (pe_cmpR op_lt (pv 4) (pv 5) (nomark _)) (pe_cmpR op_eq (pv 4) (pv 5) (nomark _)))))))))))))), ?_⟩
  cases c with
  | lf l =>
    cases l with
    | tt =>
      obtain ⟨p, u, rfl, hp, hu1⟩ := rp_1 hx
      cases rp_text hu1
      wp_walk using hp, ne_true_false, ne_true_not, ne_true_all, ne_true_any, ne_true_empty, ne_true_less, ne_false_true, ne_false_not, ne_false_all, ne_false_any, ne_false_empty, ne_false_less, ne_less_true, ne_less_false, ne_less_not, ne_less_all, ne_less_any, ne_less_empty, ne_same_true, ne_same_false, ne_same_not, ne_same_all, ne_same_any, ne_same_empty, ne_same_less, ne_empty_true, ne_empty_false, ne_empty_not, ne_empty_all, ne_empty_any, ne_empty_less, ne_not_true, ne_not_false, ne_not_all, ne_not_any, ne_not_empty, ne_not_less, ne_all_true, ne_all_false, ne_all_not, ne_all_any, ne_all_empty, ne_all_less, ne_any_true, ne_any_false, ne_any_not, ne_any_all, ne_any_empty, ne_any_less
      exact q0
    | ff =>
      obtain ⟨p, u, rfl, hp, hu1⟩ := rp_1 hx
      cases rp_text hu1
      wp_walk using hp, ne_true_false, ne_true_not, ne_true_all, ne_true_any, ne_true_empty, ne_true_less, ne_false_true, ne_false_not, ne_false_all, ne_false_any, ne_false_empty, ne_false_less, ne_less_true, ne_less_false, ne_less_not, ne_less_all, ne_less_any, ne_less_empty, ne_same_true, ne_same_false, ne_same_not, ne_same_all, ne_same_any, ne_same_empty, ne_same_less, ne_empty_true, ne_empty_false, ne_empty_not, ne_empty_all, ne_empty_any, ne_empty_less, ne_not_true, ne_not_false, ne_not_all, ne_not_any, ne_not_empty, ne_not_less, ne_all_true, ne_all_false, ne_all_not, ne_all_any, ne_all_empty, ne_all_less, ne_any_true, ne_any_false, ne_any_not, ne_any_all, ne_any_empty, ne_any_less
      exact q0
    | ls b c =>
      obtain ⟨p, u1, u2, u3, rfl, hp, e1, e2, e3⟩ := rp_3 hx
      cases rp_text e1
      cases rp_num e2
      cases rp_num e3
      wp_walk using hp, ne_true_false, ne_true_not, ne_true_all, ne_true_any, ne_true_empty, ne_true_less, ne_false_true, ne_false_not, ne_false_all, ne_false_any, ne_false_empty, ne_false_less, ne_less_true, ne_less_false, ne_less_not, ne_less_all, ne_less_any, ne_less_empty, ne_same_true, ne_same_false, ne_same_not, ne_same_all, ne_same_any, ne_same_empty, ne_same_less, ne_empty_true, ne_empty_false, ne_empty_not, ne_empty_all, ne_empty_any, ne_empty_less, ne_not_true, ne_not_false, ne_not_all, ne_not_any, ne_not_empty, ne_not_less, ne_all_true, ne_all_false, ne_all_not, ne_all_any, ne_all_empty, ne_all_less, ne_any_true, ne_any_false, ne_any_not, ne_any_all, ne_any_empty, ne_any_less
      refine ⟨_, _, held, a, rfl, ha, okP_S hok.1, ?_⟩
      wp_walk using hp
      refine ⟨_, _, held, a, rfl, ha, okP_S hok.2, ?_⟩
      simp only [evC, evL] at q0
      cases h1 : at1 b v held <;> cases h2 : at1 c v held <;> simp only [h1, h2] at q0 <;> simpa [vO] using q0
    | sm b c =>
      obtain ⟨p, u1, u2, u3, rfl, hp, e1, e2, e3⟩ := rp_3 hx
      cases rp_text e1
      cases rp_num e2
      cases rp_num e3
      wp_walk using hp, ne_true_false, ne_true_not, ne_true_all, ne_true_any, ne_true_empty, ne_true_less, ne_false_true, ne_false_not, ne_false_all, ne_false_any, ne_false_empty, ne_false_less, ne_less_true, ne_less_false, ne_less_not, ne_less_all, ne_less_any, ne_less_empty, ne_same_true, ne_same_false, ne_same_not, ne_same_all, ne_same_any, ne_same_empty, ne_same_less, ne_empty_true, ne_empty_false, ne_empty_not, ne_empty_all, ne_empty_any, ne_empty_less, ne_not_true, ne_not_false, ne_not_all, ne_not_any, ne_not_empty, ne_not_less, ne_all_true, ne_all_false, ne_all_not, ne_all_any, ne_all_empty, ne_all_less, ne_any_true, ne_any_false, ne_any_not, ne_any_all, ne_any_empty, ne_any_less
      refine ⟨_, _, held, a, rfl, ha, okP_S hok.1, ?_⟩
      wp_walk using hp
      refine ⟨_, _, held, a, rfl, ha, okP_S hok.2, ?_⟩
      simp only [evC, evL] at q0
      cases h1 : at1 b v held <;> cases h2 : at1 c v held <;> simp only [h1, h2] at q0 <;> simpa [vO, scal] using q0
    | em b =>
      obtain ⟨p, u1, u2, rfl, hp, e1, e2⟩ := rp_2 hx
      cases rp_text e1
      cases rp_num e2
      wp_walk using hp, ne_true_false, ne_true_not, ne_true_all, ne_true_any, ne_true_empty, ne_true_less, ne_false_true, ne_false_not, ne_false_all, ne_false_any, ne_false_empty, ne_false_less, ne_less_true, ne_less_false, ne_less_not, ne_less_all, ne_less_any, ne_less_empty, ne_same_true, ne_same_false, ne_same_not, ne_same_all, ne_same_any, ne_same_empty, ne_same_less, ne_empty_true, ne_empty_false, ne_empty_not, ne_empty_all, ne_empty_any, ne_empty_less, ne_not_true, ne_not_false, ne_not_all, ne_not_any, ne_not_empty, ne_not_less, ne_all_true, ne_all_false, ne_all_not, ne_all_any, ne_all_empty, ne_all_less, ne_any_true, ne_any_false, ne_any_not, ne_any_all, ne_any_empty, ne_any_less
      refine ⟨_, _, held, a, rfl, ha, okP_S hok, ?_⟩
      show Q (.bl (decide (vO (at1 b v held) = .non))) H
      rw [vO_non]
      exact q0
  | nt l =>
    obtain ⟨p, u1, u2, rfl, hp, e1, e2⟩ := rp_2 hx
    cases rp_text e1
    wp_walk using hp, ne_true_false, ne_true_not, ne_true_all, ne_true_any, ne_true_empty, ne_true_less, ne_false_true, ne_false_not, ne_false_all, ne_false_any, ne_false_empty, ne_false_less, ne_less_true, ne_less_false, ne_less_not, ne_less_all, ne_less_any, ne_less_empty, ne_same_true, ne_same_false, ne_same_not, ne_same_all, ne_same_any, ne_same_empty, ne_same_less, ne_empty_true, ne_empty_false, ne_empty_not, ne_empty_all, ne_empty_any, ne_empty_less, ne_not_true, ne_not_false, ne_not_all, ne_not_any, ne_not_empty, ne_not_less, ne_all_true, ne_all_false, ne_all_not, ne_all_any, ne_all_empty, ne_all_less, ne_any_true, ne_any_false, ne_any_not, ne_any_all, ne_any_empty, ne_any_less
    refine (hR (.nt l) hkind).elim (fun z => z.elim) fun z => z _ _ _ _ ⟨.lf l, v, held, u2, a, rfl, trivial, e2, ha, hok, fun H' s' => ⟨_, rfl, q H' s'⟩⟩
  | al ls =>
    obtain ⟨p, u1, u2, rfl, hp, e1, e2⟩ := rp_2 hx
    cases rp_text e1
    obtain ⟨p2, vs, rfl, hp2, hvs⟩ := rp_tup e2
    wp_walk using hp, ne_true_false, ne_true_not, ne_true_all, ne_true_any, ne_true_empty, ne_true_less, ne_false_true, ne_false_not, ne_false_all, ne_false_any, ne_false_empty, ne_false_less, ne_less_true, ne_less_false, ne_less_not, ne_less_all, ne_less_any, ne_less_empty, ne_same_true, ne_same_false, ne_same_not, ne_same_all, ne_same_any, ne_same_empty, ne_same_less, ne_empty_true, ne_empty_false, ne_empty_not, ne_empty_all, ne_empty_any, ne_empty_less, ne_not_true, ne_not_false, ne_not_all, ne_not_any, ne_not_empty, ne_not_less, ne_all_true, ne_all_false, ne_all_not, ne_all_any, ne_all_empty, ne_all_less, ne_any_true, ne_any_false, ne_any_not, ne_any_all, ne_any_empty, ne_any_less, u_lcT
    have hle : vs.length = ls.length := by rw [hvs.length, List.length_map]
    refine ⟨⟨_, SqT.of hp2⟩, lcT_of (R := FlatR V.bl) (keep := ls.map fun l => some (evL v held l)) hp2 flat_tub (by rw [List.length_map, hle]) (by have := hok.1; omega) (fun i x hxi H' C N hS hC hN => ?_) fun D acc H' hS hD hacc hA => ?_⟩
    · wp_walk using u_c
      obtain ⟨k, hk1, hk2⟩ := hvs.get2 hxi
      rw [List.getElem?_map] at hk1
      obtain ⟨l, hl1, rfl⟩ := Option.map_eq_some_iff.mp hk1
      have hl2 : okL held.length l := hok.2 l (List.mem_of_getElem? hl1)
      refine (hR (.al ls) hkind).elim (fun z => z.elim) fun z => z _ _ _ _ ⟨.lf l, v, held, x, a, rfl, trivial, hk2.up hS, hS _ _ ha, hl2, fun H4 hS4 => hC _ _ (evL v held l) (by rw [List.getElem?_map, hl1]; rfl) hS4 rfl⟩
    · have e := hA.flat
      have e2 : (ls.map fun l => some (evL v held l)).filterMap id = ls.map (evL v held) := by
        rw [List.filterMap_map]
        exact congrFun List.filterMap_eq_map' ls
      rw [e2] at e
      refine ⟨D, ls.map (evL v held), rfl, SqL.of (by rw [hacc, e]), ?_⟩
      have := q H' hS
      simp only [evC] at this
      rw [List.all_map]
      exact this
  | an ls =>
    obtain ⟨p, u1, u2, rfl, hp, e1, e2⟩ := rp_2 hx
    cases rp_text e1
    obtain ⟨p2, vs, rfl, hp2, hvs⟩ := rp_tup e2
    wp_walk using hp, ne_true_false, ne_true_not, ne_true_all, ne_true_any, ne_true_empty, ne_true_less, ne_false_true, ne_false_not, ne_false_all, ne_false_any, ne_false_empty, ne_false_less, ne_less_true, ne_less_false, ne_less_not, ne_less_all, ne_less_any, ne_less_empty, ne_same_true, ne_same_false, ne_same_not, ne_same_all, ne_same_any, ne_same_empty, ne_same_less, ne_empty_true, ne_empty_false, ne_empty_not, ne_empty_all, ne_empty_any, ne_empty_less, ne_not_true, ne_not_false, ne_not_all, ne_not_any, ne_not_empty, ne_not_less, ne_all_true, ne_all_false, ne_all_not, ne_all_any, ne_all_empty, ne_all_less, ne_any_true, ne_any_false, ne_any_not, ne_any_all, ne_any_empty, ne_any_less, u_lcT
    have hle : vs.length = ls.length := by rw [hvs.length, List.length_map]
    refine ⟨⟨_, SqT.of hp2⟩, lcT_of (R := FlatR V.bl) (keep := ls.map fun l => some (evL v held l)) hp2 flat_tub (by rw [List.length_map, hle]) (by have := hok.1; omega) (fun i x hxi H' C N hS hC hN => ?_) fun D acc H' hS hD hacc hA => ?_⟩
    · wp_walk using u_c
      obtain ⟨k, hk1, hk2⟩ := hvs.get2 hxi
      rw [List.getElem?_map] at hk1
      obtain ⟨l, hl1, rfl⟩ := Option.map_eq_some_iff.mp hk1
      have hl2 : okL held.length l := hok.2 l (List.mem_of_getElem? hl1)
      refine (hR (.an ls) hkind).elim (fun z => z.elim) fun z => z _ _ _ _ ⟨.lf l, v, held, x, a, rfl, trivial, hk2.up hS, hS _ _ ha, hl2, fun H4 hS4 => hC _ _ (evL v held l) (by rw [List.getElem?_map, hl1]; rfl) hS4 rfl⟩
    · have e := hA.flat
      have e2 : (ls.map fun l => some (evL v held l)).filterMap id = ls.map (evL v held) := by
        rw [List.filterMap_map]
        exact congrFun List.filterMap_eq_map' ls
      rw [e2] at e
      refine ⟨D, ls.map (evL v held), rfl, SqL.of (by rw [hacc, e]), ?_⟩
      have := q H' hS
      simp only [evC] at this
      rw [List.any_map]
      exact this

end
/-! ### promises: reading -/
def pickV : Option Nat → V
  | none => .non
  | some i => .int i
def pick (m : Mc) (c : Ct) (t : Nat) (v : Int) : Option Nat := (cases m c.1 t).findIdx? fun k => evC v c.2 k.cond
def eE (t : Nat) (v : Int) : NestedKey := .tup [.num t, .num v]
def eLog (l : List (Nat × Int)) : NestedKey := .tup (l.map fun p => eE p.1 p.2)
def spCase : Sp := fun vs H Q _ => ∃ (m : Mc) (c : Ct) (t : Nat) (v : Int) (xm xc xe : V), vs = [xm, xc, xe] ∧ okM m ∧ okCt m c ∧ t < m.tags ∧ Rp H (eM m) xm ∧ Rp H (eCt c) xc ∧ Rp H (eE t v) xe ∧ ∀ H', Same H H' → Q (pickV (pick m c t v)) H'
def spRead : Sp := fun vs H Q _ => ∃ (m : Mc) (c : Ct) (t : Nat) (v : Int) (xm xc xe : V), vs = [xm, xc, xe] ∧ okM m ∧ okCt m c ∧ t < m.tags ∧ Rp H (eM m) xm ∧ Rp H (eCt c) xc ∧ Rp H (eE t v) xe ∧
  ∀ y H', Same H H' → Rp H' (.tup [eCt (rd m c t v).1, eA (rd m c t v).2]) y → Q y H'
def spAns : Sp := fun vs H Q _ => ∃ (m : Mc) (c : Ct) (log : List (Nat × Int)) (xm xc xl : V), vs = [xm, xc, xl] ∧ okM m ∧ okCt m c ∧ (∀ p ∈ log, p.1 < m.tags) ∧ log.length ≤ 100000 ∧ Rp H (eM m) xm ∧ Rp H (eCt c) xc ∧ Rp H (eLog log) xl ∧
  ∀ y H', Same H H' → Rp H' (.tup ((ans m c log).map eA)) y → Q y H'
theorem rp_ct {H : Hp} {c : Ct} {x : V} (h : Rp H (eCt c) x) : ∃ p a, x = .ref p ∧ H p = some (.tup [.int c.1, .ref a]) ∧ H a = some (.tup (c.2.map vO)) := by
  obtain ⟨p, u, v, e1, e2, e3, e4⟩ := rp_2 h
  obtain ⟨a, e5, e6⟩ := rp_eH.mp e4
  rw [rp_num e3, e5] at e2
  exact ⟨p, a, e1, e2, e6⟩
theorem rp_e {H : Hp} {t : Nat} {v : Int} {x : V} (h : Rp H (eE t v) x) : ∃ p, x = .ref p ∧ H p = some (.tup [.int t, .int v]) := by
  obtain ⟨p, u, w, e1, e2, e3, e4⟩ := rp_2 h
  rw [rp_num e3, rp_num e4] at e2
  exact ⟨p, e1, e2⟩
theorem rp_m {H : Hp} {m : Mc} {x : V} (h : Rp H (eM m) x) : ∃ p a rows, x = .ref p ∧ H p = some (.tup [.int m.tags, .int m.regs, .ref a]) ∧ H a = some (.tup rows) ∧ Rps H (m.steps.map eRow) rows := by
  obtain ⟨p, u, w, z, e1, e2, e3, e4, e5⟩ := rp_3 h
  obtain ⟨a, rows, e6, e7, e8⟩ := rp_tup e5
  rw [rp_num e3, rp_num e4, e6] at e2
  exact ⟨p, a, rows, e1, e2, e7, e8⟩
/-- the cases of a standing and a tag in the heap -/
theorem rp_cases {H : Hp} {m : Mc} {rows : List V} {s t : Nat} (ok : okM m) (hs : s < m.steps.length) (ht : t < m.tags) (h : Rps H (m.steps.map eRow) rows) :
    ∃ p row q cs, rows[s]? = some (.ref p) ∧ H p = some (.tup row) ∧ row[t]? = some (.ref q) ∧ H q = some (.tup cs) ∧ Rps H ((cases m s t).map eK) cs ∧ okR m.regs m.steps.length 100 (cases m s t) := by
  obtain ⟨o1, o2⟩ := ok.rows m.steps[s] (List.getElem_mem hs)
  obtain ⟨x, e1, e2⟩ := h.get (i := s) (k := eRow m.steps[s]) (by rw [List.getElem?_map, List.getElem?_eq_getElem hs]; rfl)
  obtain ⟨p, row, rfl, e4, e5⟩ := rp_tup e2
  have ht' : t < m.steps[s].length := by omega
  obtain ⟨y, e6, e7⟩ := e5.get (i := t) (k := eR m.steps[s][t]) (by rw [List.getElem?_map, List.getElem?_eq_getElem ht']; rfl)
  obtain ⟨q, cs, rfl, e9, e10⟩ := rp_tup e7
  have ec : cases m s t = m.steps[s][t] := cases_at (List.getElem?_eq_getElem hs) (List.getElem?_eq_getElem ht')
  rw [ec]
  exact ⟨p, row, q, cs, e1, e4, e6, e9, e10, o2 _ (List.getElem_mem ht')⟩
theorem rp_k {H : Hp} {c : Cs} {x : V} (h : Rp H (eK c) x) : ∃ p u a b, x = .ref p ∧ H p = some (.tup [u, .ref a, .ref b, .int c.nxt]) ∧ Rp H (eC c.cond) u ∧ H a = some (.tup (c.moves.map V.int)) ∧ Rp H (.tup (c.says.map eP)) (.ref b) := by
  obtain ⟨p, u, v, w, z, e1, e2, e3, e4, e5, e6⟩ := rp_4 h
  obtain ⟨a, mv, e7, e8, e9⟩ := rp_tup e4
  obtain ⟨b, sv, e10, e11, e12⟩ := rp_tup e5
  rw [e7, e10, rp_num e6] at e2
  rw [rps_num.mp e9] at e8
  exact ⟨p, u, a, b, e1, e2, e3, e8, b, sv, rfl, e11, e12⟩
theorem eCt_mk {H : Hp} {p a : Addr} {c : Ct} (h1 : H p = some (.tup [.int c.1, .ref a])) (h2 : H a = some (.tup (c.2.map vO))) : Rp H (eCt c) (.ref p) :=
  ⟨p, _, rfl, h1, .int c.1, [.ref a], rfl, rfl, .ref a, [], rfl, rp_eH.mpr ⟨a, rfl, h2⟩, rfl⟩
theorem rps_2 {H : Hp} {k l : NestedKey} {x y : V} (h1 : Rp H k x) (h2 : Rp H l y) : Rps H [k, l] [x, y] := ⟨x, [y], rfl, h1, y, [], rfl, h2, rfl⟩
theorem rps_3 {H : Hp} {k l m : NestedKey} {x y z : V} (h1 : Rp H k x) (h2 : Rp H l y) (h3 : Rp H m z) : Rps H [k, l, m] [x, y, z] := ⟨x, [y, z], rfl, h1, rps_2 h2 h3⟩
theorem rp_flat {H : Hp} {o : OI} : Rp H (eO o) (vO o) := rp_eO.mpr rfl
theorem pick_none {m : Mc} {c : Ct} {t : Nat} {v : Int} (h : pick m c t v = none) : rd m c t v = (c, []) := by
  unfold pick at h
  rw [List.findIdx?_eq_none_iff] at h
  unfold rd
  rw [List.find?_eq_none.mpr fun x hx => by simpa using h x hx]
theorem pick_some {m : Mc} {c : Ct} {t : Nat} {v : Int} {i : Nat} (h : pick m c t v = some i) : ∃ kk, (cases m c.1 t)[i]? = some kk ∧ rd m c t v = (goS kk v c.2, sayS kk v c.2) := by
  unfold pick at h
  rw [List.findIdx?_eq_some_iff_getElem] at h
  obtain ⟨hi, h1, h2⟩ := h
  refine ⟨_, List.getElem?_eq_getElem hi, ?_⟩
  have e : (cases m c.1 t).find? (fun k => evC v c.2 k.cond) = some (cases m c.1 t)[i] := by
    rw [List.find?_eq_some_iff_getElem]
    exact ⟨h1, i, hi, rfl, fun j hj => by simpa using h2 j hj⟩
  unfold rd
  rw [e]
theorem rp_p {H : Hp} {p : Int × Int} {x : V} (h : Rp H (eP p) x) : ∃ a, x = .ref a ∧ H a = some (.tup [.int p.1, .int p.2]) := by
  obtain ⟨a, u, v, e1, e2, e3, e4⟩ := rp_2 h
  rw [rp_num e3, rp_num e4] at e2
  exact ⟨a, e1, e2⟩
theorem fm_some {α β : Type} (f : α → β) (l : List α) : (l.map fun x => some (f x)).filterMap id = l.map f := by
  rw [List.filterMap_map]
  exact congrFun List.filterMap_eq_map' l
theorem rp_pair {H : Hp} {k l : NestedKey} {x : V} (h : Rp H (.tup [k, l]) x) : ∃ p u v, x = .ref p ∧ H p = some (.tup [u, v]) ∧ Rp H k u ∧ Rp H l v := rp_2 h
/-! ### promises: ranks -/
def spRanks : Sp := fun vs H Q _ => ∃ (held : List OI) (a : Addr), vs = [.ref a] ∧ H a = some (.tup (held.map vO)) ∧ held.length ≤ 60 ∧ ∀ p H', Same H H' → H' p = some (.tup ((ranks held).map vO)) → Q (.ref p) H'
def spSpots : Sp := fun vs H Q _ => ∃ (rs : List OI) (a : Addr), vs = [.ref a] ∧ H a = some (.tup (rs.map vO)) ∧ rs.length ≤ 60 ∧ ∀ H', Same H H' → Q (.int (2 * (many rs : Int) + 1)) H'
def spMany : Sp := fun vs H Q _ => ∃ (rs : List OI) (a : Addr), vs = [.ref a] ∧ H a = some (.tup (rs.map vO)) ∧ rs.length ≤ 60 ∧ ∀ H', Same H H' → Q (.int (many rs : Int)) H'
def spShown : Sp := fun vs H Q _ => ∃ (rs : List OI) (a : Addr), vs = [.ref a] ∧ H a = some (.tup (rs.map vO)) ∧ rs.length ≤ 60 ∧ ∀ p H', Same H H' → H' p = some (.tup ((shown rs).map vO)) → Q (.ref p) H'
def spWith : Sp := fun vs H Q _ => ∃ (k : Ct) (ns : List Int) (xk : V) (l : Addr), vs = [xk, .ref l] ∧ Rp H (eCt k) xk ∧ H l = some (.lst (ns.map V.int)) ∧ k.2.length ≤ 60 ∧ (∀ r, some r ∈ k.2 → 0 ≤ r ∧ r.toNat < ns.length) ∧ ∀ y H', Same H H' → Rp H' (eCt (withV k ns)) y → Q y H'
theorem srt_set_of {w : World} {H1 : Hp} {Q : VK} {D : Addr} {ns : List Int} (hD : H1 D = some (.lst (ns.map V.int))) (hl : ns.length ≤ 60) (h : ∀ p H', Same H1 H' → H1 p = none → H' p = some (.lst ((srt ns).map V.int)) → Q (.ref p) H') :
    rSetI w [.ref D] H1 fun x H2 => rSortedSet w [x] H2 Q := by
  refine ⟨D, ns, rfl, hD, hl, fun p c hc hp => ⟨p, _, c, rfl, upd_same, by omega, fun ms q h1 h2 _ hq => ?_⟩⟩
  have e : ms = srt ns := sorted_unique h1 (srt_sorted ns) fun x => by rw [h2, mem_srt, decide_eq_true_iff]
  have s1 := same_new (o := SetO w p (fun j => decide (j ∈ ns)) c) hp
  refine h q _ (s1.trans (same_new hq)) (s1.free hq) ?_
  rw [e]
  exact upd_same
theorem len_set_of {w : World} {H1 : Hp} {Q : VK} {D : Addr} {ns : List Int} (hD : H1 D = some (.lst (ns.map V.int))) (hl : ns.length ≤ 60) (h : ∀ H', Same H1 H' → Q (.int (srt ns).length) H') :
    rSetI w [.ref D] H1 fun x H2 => rLenI w [x] H2 Q :=
  ⟨D, ns, rfl, hD, hl, fun p c _ hp => ⟨p, ns, c, rfl, upd_same, h _ (same_new hp)⟩⟩
theorem u_setI {w : World} {xs : List V} {H : Hp} {Q : VK} : rSetI w xs H Q = rSetI w xs H Q := rfl
theorem u_scN {w : World} {ti : TE} {σ : L2.St} {H : Hp} {Q : VK} : tScN w ti σ H Q = ti σ H fun v H1 => ∃ (a : Addr) (rs : List OI), v = .ref a ∧ H1 a = some (.tup (rs.map vO)) ∧ rs.length ≤ 60 ∧ ∀ p c, H1 p = none → Q (.ref p) (upd H1 p (SetO w p (fun j => decide (j ∈ vals rs)) c)) := rfl
theorem vO_inj {a b : OI} (h : vO a = vO b) : a = b := by
  cases a <;> cases b <;> simp_all [vO]
theorem vO_non_iff {o : OI} : vO o = .non ↔ o = none := by
  cases o <;> simp [vO]
/-- the place of a known value -/
theorem idx_of {ns : List Int} {n : Int} {Q : Int → Prop} (hs : ns.Pairwise (· < ·)) (h : n ∈ ns) (q : Q (rk ns n)) :
    ∃ (j : Nat), (flatV (.int n) = true ∧ (ns.map V.int).all flatV = true ∧ (∃ z, (ns.map V.int)[j]? = some z ∧ eqV z (.int n) = true) ∧ ∀ m z', m < j → (ns.map V.int)[m]? = some z' → eqV z' (.int n) = false) ∧ Q j := by
  obtain ⟨j, hj⟩ := List.mem_iff_getElem?.mp h
  have e := rk_at hs hj
  refine ⟨j, ⟨rfl, ?_, ⟨.int n, by rw [List.getElem?_map, hj]; rfl, ?_⟩, fun m z hm hz => ?_⟩, by rw [← e]; exact q⟩
  · rw [List.all_map]
    exact List.all_eq_true.mpr fun _ _ => rfl
  · show (n == n) = true
    exact beq_self_eq_true n
  · rw [List.getElem?_map] at hz
    obtain ⟨k, hk, rfl⟩ := Option.map_eq_some_iff.mp hz
    have ek := rk_at hs hk
    show (k == n) = false
    refine beq_eq_false_iff_ne.mpr fun q => ?_
    subst q
    omega
section
variable {P : Program} {w : World} {K : PySem.W.Frag} {mg : PySem.Str → Option Value} {base : Heap}

abbrev N_case_for : List PySem.Str := ["machine", "content", "entry", "standing", "held", "tag", "value", "number", "case"]
theorem sc_case_for : FnScope N_case_for ["machine", "content", "entry"] (defScope s_case_for) := ⟨rfl, rfl, rfl, by decide +kernel, rfl, by decide +kernel, by decide +kernel⟩
theorem c_case_for (D : Df K mg "case_for" s_case_for) (T : Tx K mg) (C_holds : Cal P w K mg base "holds" 4 ["condition", "value", "held"] (spH fun _ => True)) : Cal P w K mg base "case_for" 5 ["machine", "content", "entry"] spCase := by
  refine D.cal sc_case_for (by rintro vs H Q E ⟨_, _, _, _, _, _, _, rfl, _⟩; rfl) (fun _ _ _ _ _ _ us hl => match us, hl with | [_, _, _], _ => rfl) fun f cdv A outer s H vs Q E hr h => ?_
  have hu : (A.deeper (envOfC "case_for" (defScope s_case_for) s.heap.objs.size f cdv)).units + 64 < cLine := hr.units
  obtain ⟨m, c, t, v, xm, xc, xe, rfl, ok, okc, ht, hm, hc, he, q⟩ := h
  refine ⟨_, (pss_cons (ps_asg (pv 1) (pg_tupK (K := K) (n := 2) rfl rfl (pgs_cons (pg_name (i := 3) sc_case_for.nd rfl (Or.inl rfl)) (pgs_cons (pg_name (i := 4) sc_case_for.nd rfl (Or.inl rfl)) pgs_nil))))
    (pss_cons (ps_asg (pv 2) (pg_tupK (K := K) (n := 2) rfl rfl (pgs_cons (pg_name (i := 5) sc_case_for.nd rfl (Or.inl rfl)) (pgs_cons (pg_name (i := 6) sc_case_for.nd rfl (Or.inl rfl)) pgs_nil))))
    (pss_cons (ps_for PassesOwn.never rfl (pi_enT (by rfl) T.nenum (pa_cons (pe_ix ixT (pe_ix ixT (pe_ix ixT (pv 0) pe_int (fun _ _ => rfl)) (pv 3) (fun _ _ => rfl)) (pv 5) (fun _ _ => rfl)) pa_nil)) (pg_tupK (K := K) (n := 2) rfl rfl (pgs_cons (pg_name (i := 7) sc_case_for.nd rfl (Or.inl rfl)) (pgs_cons (pg_name (i := 8) sc_case_for.nd rfl (Or.inl rfl)) pgs_nil))) (pss_one (ps_if (pt_val (pe_cal C_holds hr (pa_cons (pe_ix ixT (pv 8) pe_int (fun _ _ => rfl)) (pa_cons (pv 6) (pa_cons (pv 4) pa_nil))))) (pss_one (ps_ret (pv 7))) pss_nil)))
    (pss_one (ps_ret pe_non))))), ?_⟩
  obtain ⟨pm, am, rows, rfl, m1, m2, m3⟩ := rp_m hm
  obtain ⟨pc, ac, rfl, c1, c2⟩ := rp_ct hc
  obtain ⟨pe, rfl, e1⟩ := rp_e he
  obtain ⟨p1, row, p2, cs, r1, r2, r3, r4, r5, r6⟩ := rp_cases ok okc.1 ht m3
  wp_walk using u_c
  refine gtup_of c1 rfl ?_
  wp_walk using u_c
  refine gtup_of e1 rfl ?_
  have hl : cs.length = (cases m c.1 t).length := by rw [r5.length, List.length_map]
  wp_walk using u_forE, m1, m2, atI_z, r1, r2, r3, r4
  refine ⟨_, _, rfl, r4, forE_of (xs := cs) (fun i σ H' => (∃ n k, σ = [some (.ref pm), some (.ref pc), some (.ref pe), some (.int c.1), some (.ref ac), some (.int t), some (.int v), n, k]) ∧ Same H H' ∧ ∀ j, j < i → ∀ k, (cases m c.1 t)[j]? = some k → evC v c.2 k.cond = false) ?_ ?_ ?_ ?_⟩
  · exact ⟨⟨_, _, rfl⟩, Same.refl H, fun j hj => absurd hj (Nat.not_lt_zero j)⟩
  · rintro i σ H' _ ⟨_, hS, _⟩
    exact hS _ _ r4
  · rintro i x σ H' T H'' hx ⟨⟨n, k0, rfl⟩, hS, hno⟩ hS2 hT
    obtain ⟨k, hk1, hk2⟩ := r5.get2 hx
    rw [List.getElem?_map] at hk1
    obtain ⟨kk, hkk, rfl⟩ := Option.map_eq_some_iff.mp hk1
    have hS3 := hS.trans hS2
    obtain ⟨pk, u, b1, b2, rfl, k1, k2, k3, k4⟩ := rp_k (hk2.up hS3)
    refine gtup_of hT rfl ?_
    have okk := r6.2 kk (List.mem_of_getElem? hkk)
    wp_walk using k1
    refine ⟨kk.cond, v, c.2, u, ac, rfl, trivial, k2, hS3 _ _ c2, by rw [okc.2]; exact okk.cond, fun H4 hS4 => ⟨_, rfl, ?_⟩⟩
    refine ite2 (fun ht => ?_) fun ht => ?_
    · wp_walk using u_c
      have e : pick m c t v = some i := by
        unfold pick
        rw [List.findIdx?_eq_some_iff_getElem]
        obtain ⟨hi, ei⟩ := List.getElem?_eq_some_iff.mp hkk
        refine ⟨hi, by rw [ei]; exact ht, fun j hj => ?_⟩
        have := hno j hj _ (List.getElem?_eq_getElem (Nat.lt_trans hj hi))
        simpa using this
      have := q H4 (hS3.trans hS4)
      rw [e] at this
      exact this
    · refine ⟨⟨_, _, rfl, rfl⟩, hS3.trans hS4, fun j hj k' hk' => ?_⟩
      rcases Nat.lt_succ_iff_lt_or_eq.mp hj with h | h
      · exact hno j h k' hk'
      · subst h
        rw [hkk] at hk'
        cases hk'
        simpa using ht
  · rintro σ H' ⟨⟨n, k0, rfl⟩, hS, hno⟩
    wp_walk using u_c
    have e : pick m c t v = none := by
      unfold pick
      rw [List.findIdx?_eq_none_iff]
      intro x hx
      obtain ⟨j, hj⟩ := List.mem_iff_getElem?.mp hx
      have hjl := (List.getElem?_eq_some_iff.mp hj).1
      have := hno j (by omega) x hj
      simpa using this
    have := q H' hS
    rw [e] at this
    exact this

abbrev N_read : List PySem.Str := ["machine", "content", "entry", "number", "standing", "held", "tag", "value", "_", "moves", "says", "after", "answer", "said", "source"]
theorem sc_read : FnScope N_read ["machine", "content", "entry"] (defScope s_read) := ⟨rfl, rfl, rfl, by decide +kernel, rfl, by decide +kernel, by decide +kernel⟩
theorem c_read (D : Df K mg "read" s_read) (T : Tx K mg) (C_case_for : Cal P w K mg base "case_for" 5 ["machine", "content", "entry"] spCase) (C_value_at : Cal P w K mg base "value_at" 1 ["source", "value", "held"] spVal) : Cal P w K mg base "read" 6 ["machine", "content", "entry"] spRead := by
  refine D.cal sc_read (by rintro vs H Q E ⟨_, _, _, _, _, _, _, rfl, _⟩; rfl) (fun _ _ _ _ _ _ us hl => match us, hl with | [_, _, _], _ => rfl) fun f cdv A outer s H vs Q E hr h => ?_
  have hu : (A.deeper (envOfC "read" (defScope s_read) s.heap.objs.size f cdv)).units + 64 < cLine := hr.units
  obtain ⟨m, c, t, v, xm, xc, xe, rfl, ok, okc, ht, hm, hc, he, q⟩ := h
  refine ⟨_, (pss_cons (ps_set (i := 3) sc_read.nd rfl (Or.inl rfl) (pe_cal C_case_for hr (pa_cons (pv 0) (pa_cons (pv 1) (pa_cons (pv 2) pa_nil)))))
    (pss_cons (ps_if (pt_cmp (pc_isN (pv 3)) rfl) (pss_one (ps_ret (pe_tup (pa_cons (pv 1) (pa_cons (pe_tup pa_nil) pa_nil))))) pss_nil)
    (pss_cons (ps_asg (pv 1) (pg_tupK (K := K) (n := 2) rfl rfl (pgs_cons (pg_name (i := 4) sc_read.nd rfl (Or.inl rfl)) (pgs_cons (pg_name (i := 5) sc_read.nd rfl (Or.inr rfl)) pgs_nil))))
    (pss_cons (ps_asg (pv 2) (pg_tupK (K := K) (n := 2) rfl rfl (pgs_cons (pg_name (i := 6) sc_read.nd rfl (Or.inl rfl)) (pgs_cons (pg_name (i := 7) sc_read.nd rfl (Or.inr rfl)) pgs_nil))))
    (pss_cons (ps_asg (pe_ix ixT (pe_ix ixT (pe_ix ixT (pe_ix ixT (pv 0) pe_int (fun _ _ => rfl)) (pv 4) (fun _ _ => rfl)) (pv 6) (fun _ _ => rfl)) (pv 3) (fun _ _ => rfl)) (pg_tupK (K := K) (n := 4) rfl rfl (pgs_cons (pg_name (i := 8) sc_read.nd rfl (Or.inl rfl)) (pgs_cons (pg_name (i := 9) sc_read.nd rfl (Or.inl rfl)) (pgs_cons (pg_name (i := 10) sc_read.nd rfl (Or.inl rfl)) (pgs_cons (pg_name (i := 11) sc_read.nd rfl (Or.inl rfl)) pgs_nil))))))
    (pss_cons (ps_set (i := 12) sc_read.nd rfl (Or.inl rfl) (pe_callTy cr_tupL (by rfl) T.ntuple (by decide +kernel) (pa_cons (pe_lc (own := [("said", 13), ("source", 14)]) rfl sc_read.nd (pi_tup (pv 10)) (blkOk_by (own := [("said", 13), ("source", 14)]) (N := N_read) (sc := defScope s_read) (by decide +kernel)) (fun _ _ _ _ _ => by exact (pg_tupK (K := K) (n := 2) rfl rfl (pgs_cons (pg_name (i := 13) sc_read.nd rfl (Or.inl rfl)) (pgs_cons (pg_name (i := 14) sc_read.nd rfl (Or.inl rfl)) pgs_nil)))) (fun _ _ _ _ _ => pts_nil) (fun _ _ _ _ _ => (pe_tup (pa_cons (pv 13) (pa_cons (pe_cal C_value_at hr (pa_cons (pv 14) (pa_cons (pv 7) (pa_cons (pv 5) pa_nil)))) pa_nil))))) pa_nil)))
    (pss_one (ps_ret (pe_tup (pa_cons (pe_tup (pa_cons (pv 11) (pa_cons (pe_callTy cr_tupL (by rfl) T.ntuple (by decide +kernel) (pa_cons (pe_lc (own := [("source", 14)]) rfl sc_read.nd (pi_tup (pv 9)) (blkOk_by (own := [("source", 14)]) (N := N_read) (sc := defScope s_read) (by decide +kernel)) (fun _ _ _ _ _ => (pg_name (i := 14) sc_read.nd rfl (Or.inl rfl))) (fun _ _ _ _ _ => pts_nil) (fun _ _ _ _ _ => (pe_cal C_value_at hr (pa_cons (pv 14) (pa_cons (pv 7) (pa_cons (pv 5) pa_nil)))))) pa_nil)) pa_nil))) (pa_cons (pv 12) pa_nil))))))))))), ?_⟩
  obtain ⟨pm, am, rows, rfl, m1, m2, m3⟩ := rp_m hm
  obtain ⟨pc, ac, rfl, c1, c2⟩ := rp_ct hc
  obtain ⟨pe, rfl, e1⟩ := rp_e he
  obtain ⟨p1, row, p2, cs, r1, r2, r3, r4, r5, r6⟩ := rp_cases ok okc.1 ht m3
  wp_walk using u_c
  refine ⟨m, c, t, v, _, _, _, rfl, ok, okc, ht, hm, hc, he, fun H1 s1 => ?_⟩
  cases hp : pick m c t v with
  | none =>
    wp_walk using pickV
    refine new_tup (ks := []) rfl (Nat.zero_le _) fun x2 H2 s2 r2 => ?_
    wp_walk using u_c
    refine new_tup (ks := [eCt c, eA []]) (rps_2 (hc.up (s1.trans s2)) r2) (by simp) fun x3 H3 s3 r3 => ?_
    rw [pick_none hp] at q
    exact q x3 H3 ((s1.trans s2).trans s3) r3
  | some i =>
    obtain ⟨kk, hkk, erd⟩ := pick_some hp
    rw [erd] at q
    obtain ⟨xk, hx1, hx2⟩ := r5.get (i := i) (k := eK kk) (by rw [List.getElem?_map, hkk]; rfl)
    obtain ⟨pk, u, b1, b2, rfl, k1, k2, k3, k4⟩ := rp_k hx2
    obtain ⟨b2', sv, e5, k5, k6⟩ := rp_tup k4
    cases e5
    have okk := r6.2 kk (List.mem_of_getElem? hkk)
    wp_walk using pickV
    refine gtup_of (s1 _ _ c1) rfl ?_
    wp_walk using u_c
    refine gtup_of (s1 _ _ e1) rfl ?_
    wp_walk using s1 _ _ m1, s1 _ _ m2, s1 _ _ r2, s1 _ _ r4, atI_z, r1, r3, hx1
    refine gtup_of (s1 _ _ k1) rfl ?_
    wp_walk using u_lcT
    have hsl : sv.length = kk.says.length := by rw [k6.length, List.length_map]
    refine ⟨⟨_, SqT.of (s1 _ _ k5)⟩, lcT_of (R := Rp) (keep := kk.says.map fun p => some (eA1 (p.1, at1 p.2 v c.2))) (s1 _ _ k5) rp_tub (by rw [List.length_map, hsl]) (by have := okk.slen; omega) (fun i x hxi H' C N hS hC hN => ?_) fun D acc H2 s2 hD hacc hA => ?_⟩
    · obtain ⟨kx, hk1, hk2⟩ := k6.get2 hxi
      rw [List.getElem?_map] at hk1
      obtain ⟨pp, hpp, rfl⟩ := Option.map_eq_some_iff.mp hk1
      obtain ⟨px, rfl, hpx⟩ := rp_p (hk2.up (s1.trans hS))
      refine gtup_of hpx rfl ?_
      wp_walk using u_c
      refine ⟨_, _, c.2, ac, rfl, hS _ _ (s1 _ _ c2), by rw [okc.2]; exact okk.says pp (List.mem_of_getElem? hpp), ?_⟩
      wp_walk using u_c
      refine new_tup (ks := [.num pp.1, eO (at1 pp.2 v c.2)]) (rps_2 rfl rp_flat) (by simp) fun x3 H3 s3 r3 => ?_
      exact hC x3 H3 _ (by rw [List.getElem?_map, hpp]; rfl) s3 r3
    · rw [fm_some] at hA
      wp_walk using hacc
      refine new_tup1 hA.rps fun xa H3 s3 r3 => ?_
      have S3 := (s1.trans s2).trans s3
      wp_walk using u_lcT
      refine ⟨⟨_, SqT.of (S3 _ _ k3)⟩, lcT_of (R := FlatR vO) (keep := kk.moves.map fun s => some (at1 s v c.2)) (S3 _ _ k3) flat_tub (by rw [List.length_map, List.length_map]) (by rw [List.length_map, okk.len]; have := ok.r2; omega) (fun i x hxi H' C N hS hC hN => ?_) fun D' acc' H4 s4 hD' hacc' hA' => ?_⟩
      · rw [List.getElem?_map] at hxi
        obtain ⟨ss, hss, rfl⟩ := Option.map_eq_some_iff.mp hxi
        wp_walk using u_c
        refine ⟨_, _, c.2, ac, rfl, hS _ _ (S3 _ _ c2), by rw [okc.2]; exact okk.moves ss (List.mem_of_getElem? hss), ?_⟩
        exact hC _ _ (at1 ss v c.2) (by rw [List.getElem?_map, hss]; rfl) (Same.refl _) rfl
      · rw [fm_some] at hA'
        have ea := hA'.flat
        subst ea
        wp_walk using hacc'
        refine new_tup1 (ks := (kk.moves.map fun s => at1 s v c.2).map eO) (rps_eO.mpr rfl) fun xb H5 s5 r5' => ?_
        wp_walk using u_c
        refine new_tup (ks := [.num kk.nxt, eH (kk.moves.map fun s => at1 s v c.2)]) (rps_2 rfl r5') (by simp) fun xd H6 s6 r6' => ?_
        wp_walk using u_c
        have S46 := (s4.trans s5).trans s6
        refine new_tup (ks := [eCt (goS kk v c.2), eA (sayS kk v c.2)]) (rps_2 r6' ?_) (by simp) fun xf H7 s7 r7 => ?_
        · have := r3.up S46
          unfold eA sayS
          rw [List.map_map]
          exact this
        · exact q xf H7 ((S3.trans S46).trans s7) r7

abbrev N_answers_from : List PySem.Str := ["machine", "content", "log", "found", "entry", "answer"]
theorem sc_answers_from : FnScope N_answers_from ["machine", "content", "log"] (defScope s_answers_from) := ⟨rfl, rfl, rfl, by decide +kernel, rfl, by decide +kernel, by decide +kernel⟩
theorem c_answers_from (D : Df K mg "answers_from" s_answers_from) (T : Tx K mg) (C_read : Cal P w K mg base "read" 6 ["machine", "content", "entry"] spRead) : Cal P w K mg base "answers_from" 7 ["machine", "content", "log"] spAns := by
  refine D.cal sc_answers_from (by rintro vs H Q E ⟨_, _, _, _, _, _, rfl, _⟩; rfl) (fun _ _ _ _ _ _ us hl => match us, hl with | [_, _, _], _ => rfl) fun f cdv A outer s H vs Q E hr h => ?_
  have hu : (A.deeper (envOfC "answers_from" (defScope s_answers_from) s.heap.objs.size f cdv)).units + 64 < cLine := hr.units
  obtain ⟨m, c, log, xm, xc, xl, rfl, ok, okc, hlog, hlen, hm, hc, hl, q⟩ := h
  refine ⟨_, (pss_cons (ps_set (i := 3) sc_answers_from.nd rfl (Or.inl rfl) (pe_lst pa_nil))
    (pss_cons (ps_for PassesOwn.never rfl (pi_tup (pv 2)) (pg_name (i := 4) sc_answers_from.nd rfl (Or.inl rfl)) (pss_cons (ps_asg (pe_cal C_read hr (pa_cons (pv 0) (pa_cons (pv 1) (pa_cons (pv 4) pa_nil)))) (pg_tupK (K := K) (n := 2) rfl rfl (pgs_cons (pg_name (i := 1) sc_answers_from.nd rfl (Or.inl rfl)) (pgs_cons (pg_name (i := 5) sc_answers_from.nd rfl (Or.inl rfl)) pgs_nil))))
    (pss_one (ps_expr (pe_lm F.slot_list_append F.type_list_append mt_appL (pv 3) (pa_cons (pv 5) pa_nil))))))
    (pss_one (ps_ret (pe_callTy cr_tupL (by rfl) T.ntuple (by decide +kernel) (pa_cons (pv 3) pa_nil)))))), ?_⟩
  obtain ⟨pl, ls, rfl, l1, l2⟩ := rp_tup hl
  wp_walk using u_forT
  refine new_lst (Nat.zero_le _) fun D H1 hD s1 h1 => ?_
  wp_walk using u_forT
  have hl2 : ls.length = log.length := by rw [l2.length, List.length_map]
  obtain ⟨Pv, hPv⟩ : ∃ Pv : Nat → L2.St → Hp → Prop, Pv = fun i σ H' => ∃ (x3 : V) (ci : Ct) (acc : List V) (pre : List An) (n4 n5 : Option V), σ = [some xm, some x3, some (.ref pl), some (.ref D), n4, n5] ∧ Same H H' ∧ H' D = some (.lst acc) ∧ okCt m ci ∧ Rp H' (eCt ci) x3 ∧ Rps H' (pre.map eA) acc ∧ pre.length = i ∧ ans m c log = pre ++ ans m ci (log.drop i) := ⟨_, rfl⟩
  refine ⟨⟨_, SqT.of (s1 _ _ l1)⟩, forT_of (xs := ls) Pv ?_ ?_ ?_ ?_⟩
  · rw [hPv]
    exact ⟨xc, c, [], [], _, _, rfl, s1, h1, okc, hc.up s1, rfl, rfl, rfl⟩
  · intro i σ H' _ hp
    rw [hPv] at hp
    obtain ⟨_, _, _, _, _, _, _, hS, _⟩ := hp
    exact hS _ _ l1
  · intro i x σ H' hx hp
    rw [hPv] at hp
    obtain ⟨x3, ci, acc, pre, n4, n5, rfl, hS, hacc, oki, hci, hpre, hpl, hans⟩ := hp
    obtain ⟨k, hk1, hk2⟩ := l2.get2 hx
    rw [List.getElem?_map] at hk1
    obtain ⟨⟨t, v⟩, htv, rfl⟩ := Option.map_eq_some_iff.mp hk1
    have htt := hlog _ (List.mem_of_getElem? htv)
    have hi := (List.getElem?_eq_some_iff.mp htv).1
    wp_walk using u_c
    refine ⟨m, ci, t, v, _, _, _, rfl, ok, oki, htt, hm.up hS, hci, hk2.up hS, fun y H2 s2 r2 => ?_⟩
    obtain ⟨p, u1, u2, rfl, hp, g1, g2⟩ := rp_2 r2
    refine gtup_of hp rfl ?_
    have hacc2 := s2 _ _ hacc
    have hal : acc.length = i := by rw [hpre.length, List.length_map, hpl]
    wp_walk using hacc2, hal
    refine ⟨by rw [sizeLine_eq]; omega, ?_⟩
    have S2 := hS.trans s2
    have tb := tub_lst (ys := acc ++ [u2]) hacc2
    have ed : log.drop i = (t, v) :: log.drop (i + 1) := by
      rw [List.drop_eq_getElem_cons hi]
      congr 1
      exact (List.getElem?_eq_some_iff.mp htv).2
    rw [hPv]
    refine ⟨u1, (rd m ci t v).1, acc ++ [u2], pre ++ [(rd m ci t v).2], _, _, rfl, same_lst S2 hD, upd_same, rd_ok ok oki htt, Rp.ts tb _ _ g1, ?_, by rw [List.length_append, hpl]; rfl, ?_⟩
    · rw [List.map_append]
      exact Rps.app (Rps.ts tb _ _ (hpre.up s2)) (Rps.one (Rp.ts tb _ _ g2))
    · rw [hans, ed, List.append_assoc]
      rfl
  · intro σ H' hp
    rw [hPv] at hp
    obtain ⟨x3, ci, acc, pre, n4, n5, rfl, hS, hacc, oki, hci, hpre, hpl, hans⟩ := hp
    wp_walk using hacc
    refine new_tup1 hpre fun y H2 s2 r2 => q y H2 (hS.trans s2) ?_
    have e : ans m c log = pre := by
      rw [hans, List.drop_eq_nil_of_le (by omega)]
      simp [ans]
    rw [e]
    exact r2

end
section
variable {P : Program} {w : World} {K : PySem.W.Frag} {mg : PySem.Str → Option Value} {base : Heap}

abbrev N_ranks_of : List PySem.Str := ["held", "known", "value"]
theorem sc_ranks_of : FnScope N_ranks_of ["held"] (defScope s_ranks_of) := ⟨rfl, rfl, rfl, by decide +kernel, rfl, by decide +kernel, by decide +kernel⟩
theorem c_ranks_of (D : Df K mg "ranks_of" s_ranks_of) (T : Tx K mg) : Cal P w K mg base "ranks_of" 1 ["held"] spRanks := by
  refine D.cal sc_ranks_of (by rintro vs H Q E ⟨_, _, rfl, _⟩; rfl) (fun _ _ _ _ _ _ us hl => match us, hl with | [_], _ => rfl) fun f cdv A outer s H vs Q E hr h => ?_
  have hu : (A.deeper (envOfC "ranks_of" (defScope s_ranks_of) s.heap.objs.size f cdv)).units + 64 < cLine := hr.units
  obtain ⟨held, a, rfl, ha, hl, q⟩ := h
  refine ⟨_, (pss_cons (ps_set (i := 1) sc_ranks_of.nd rfl (Or.inr rfl) (pe_callB (cr_sortedSet rfl) (by rfl) T.nsorted (by decide +kernel) (pa_cons (pe_callTy (cr_setI rfl) (by rfl) T.nset (by decide +kernel) (pa_cons (pe_lc (own := [("value", 2)]) rfl sc_ranks_of.nd (pi_tup (pv 0)) (blkOk_by (own := [("value", 2)]) (N := N_ranks_of) (sc := defScope s_ranks_of) (by decide +kernel)) (fun _ _ _ _ _ => (pg_name (i := 2) sc_ranks_of.nd rfl (Or.inl rfl))) (fun _ _ _ _ _ => (pts_one (pt_cmp (pc_notN (pv 2)) rfl))) (fun _ _ _ _ _ => (pv 2))) pa_nil)) pa_nil)))
    (pss_one (ps_ret (pe_callTy cr_tupL (by rfl) T.ntuple (by decide +kernel) (pa_cons (pe_lc (own := [("value", 2)]) rfl sc_ranks_of.nd (pi_tup (pv 0)) (blkOk_by (own := [("value", 2)]) (N := N_ranks_of) (sc := defScope s_ranks_of) (by decide +kernel)) (fun _ _ _ _ _ => (pg_name (i := 2) sc_ranks_of.nd rfl (Or.inl rfl))) (fun _ _ _ _ _ => pts_nil) (fun _ _ _ _ _ => (pe_ifExp (pt_cmp (pc_isN (pv 2)) rfl) pe_non (pe_lm F.slot_list_index F.type_list_index mt_idxL (pv 1) (pa_cons (pv 2) pa_nil))))) pa_nil))))), ?_⟩
  wp_walk using u_lcT
  refine ⟨⟨_, SqT.of ha⟩, lcT_of (R := FlatR V.int) (keep := held) ha flat_tub (by rw [List.length_map]) (by rw [List.length_map]; omega) (fun i x hxi H' C N hS hC hN => ?_) fun D acc H1 s1 hD hacc hA => ?_⟩
  · rw [List.getElem?_map] at hxi
    obtain ⟨o, ho, rfl⟩ := Option.map_eq_some_iff.mp hxi
    cases o with
    | none =>
      wp_walk using vO
      exact hN _ ho (Same.refl _)
    | some n =>
      wp_walk using vO
      exact hC _ _ n ho (Same.refl _) rfl
  · have ea := hA.flat
    subst ea
    wp_walk using hacc
    refine srt_set_of hacc (Nat.le_trans (List.length_filterMap_le _ _) hl) fun p H2 s2 hp0 hp => ?_
    have S2 := s1.trans s2
    wp_walk using u_lcT
    refine ⟨⟨_, SqT.of (S2 _ _ ha)⟩, lcT_of (R := FlatR vO) (keep := held.map fun o => some (o.map fun v => (rk (kn held) v : Int))) (S2 _ _ ha) flat_tub (by rw [List.length_map, List.length_map]) (by rw [List.length_map]; omega) (fun i x hxi H' C N hS hC hN => ?_) fun D' acc' H4 s4 hD' hacc' hA' => ?_⟩
    · rw [List.getElem?_map] at hxi
      obtain ⟨o, ho, rfl⟩ := Option.map_eq_some_iff.mp hxi
      cases o with
      | none =>
        wp_walk using vO
        exact hC _ _ none (by rw [List.getElem?_map, ho]; rfl) (Same.refl _) rfl
      | some n =>
        wp_walk using vO, hS _ _ hp
        refine idx_of (Q := fun j => C (V.int j) H') (kn_sorted held) (mem_kn.mpr (List.mem_of_getElem? ho)) ?_
        exact hC _ _ (some (rk (kn held) n : Int)) (by rw [List.getElem?_map, ho]; rfl) (Same.refl _) rfl
    · rw [fm_some] at hA'
      have ea := hA'.flat
      subst ea
      wp_walk using hacc'
      exact new_tup1V fun p5 H5 s5 h5 => q p5 H5 ((S2.trans s4).trans s5) h5

abbrev N_l_ranks : List PySem.Str := ["_law_held", "_law_known", "_law_found", "_law_value"]
theorem sc_l_ranks : FnScope N_l_ranks ["_law_held"] (defScope s_l_ranks) := ⟨rfl, rfl, rfl, by decide +kernel, rfl, by decide +kernel, by decide +kernel⟩
theorem c_l_ranks (D : Df K mg "_law_ranks" s_l_ranks) (T : Tx K mg) : Cal P w K mg base "_law_ranks" 1 ["_law_held"] spRanks := by
  refine D.cal sc_l_ranks (by rintro vs H Q E ⟨_, _, rfl, _⟩; rfl) (fun _ _ _ _ _ _ us hl => match us, hl with | [_], _ => rfl) fun f cdv A outer s H vs Q E hr h => ?_
  have hu : (A.deeper (envOfC "_law_ranks" (defScope s_l_ranks) s.heap.objs.size f cdv)).units + 64 < cLine := hr.units
  obtain ⟨held, a, rfl, ha, hl, q⟩ := h
  refine ⟨_, (pss_cons (ps_set (i := 1) sc_l_ranks.nd rfl (Or.inl rfl) (pe_callB (cr_sortedSet rfl) (by rfl) T.nsorted (by decide +kernel) (pa_cons (pe_callTy (cr_setI rfl) (by rfl) T.nset (by decide +kernel) (pa_cons (pe_lc (own := [("_law_value", 3)]) rfl sc_l_ranks.nd (pi_tup (pv 0)) (blkOk_by (own := [("_law_value", 3)]) (N := N_l_ranks) (sc := defScope s_l_ranks) (by decide +kernel)) (fun _ _ _ _ _ => (pg_name (i := 3) sc_l_ranks.nd rfl (Or.inl rfl))) (fun _ _ _ _ _ => (pts_one (pt_cmp (pc_notN (pv 3)) rfl))) (fun _ _ _ _ _ => (pv 3))) pa_nil)) pa_nil)))
    (pss_cons (ps_set (i := 2) sc_l_ranks.nd rfl (Or.inl rfl) (pe_lst pa_nil))
    (pss_cons (ps_for PassesOwn.never rfl (pi_tup (pv 0)) (pg_name (i := 3) sc_l_ranks.nd rfl (Or.inl rfl)) (pss_one (ps_if (pt_cmp (pc_isN (pv 3)) rfl) (pss_one (ps_expr (pe_lm F.slot_list_append F.type_list_append mt_appL (pv 2) (pa_cons pe_non pa_nil)))) (pss_one (ps_expr (pe_lm F.slot_list_append F.type_list_append mt_appL (pv 2) (pa_cons (pe_lm F.slot_list_index F.type_list_index mt_idxL (pv 1) (pa_cons (pv 3) pa_nil)) pa_nil)))))))
    (pss_one (ps_ret (pe_callTy cr_tupL (by rfl) T.ntuple (by decide +kernel) (pa_cons (pv 2) pa_nil))))))), ?_⟩
  wp_walk using u_lcT
  refine ⟨⟨_, SqT.of ha⟩, lcT_of (R := FlatR V.int) (keep := held) ha flat_tub (by rw [List.length_map]) (by rw [List.length_map]; omega) (fun i x hxi H' C N hS hC hN => ?_) fun D acc H1 s1 hD hacc hA => ?_⟩
  · rw [List.getElem?_map] at hxi
    obtain ⟨o, ho, rfl⟩ := Option.map_eq_some_iff.mp hxi
    cases o with
    | none =>
      wp_walk using vO
      exact hN _ ho (Same.refl _)
    | some n =>
      wp_walk using vO
      exact hC _ _ n ho (Same.refl _) rfl
  · have ea := hA.flat
    subst ea
    wp_walk using hacc
    refine srt_set_of hacc (Nat.le_trans (List.length_filterMap_le _ _) hl) fun p H2 s2 hp0 hp => ?_
    have S2 := s1.trans s2
    wp_walk using u_forT
    refine new_lst (Nat.zero_le _) fun L H3 hL s3 h3 => ?_
    have S3 := S2.trans s3
    wp_walk using u_forT
    obtain ⟨Pv, hPv⟩ : ∃ Pv : Nat → L2.St → Hp → Prop, Pv = fun i σ H' => ∃ (n3 : Option V), σ = [some (.ref a), some (.ref p), some (.ref L), n3] ∧ Same H2 H' ∧ H' L = some (.lst (((ranks held).take i).map vO)) := ⟨_, rfl⟩
    refine ⟨⟨_, SqT.of (S3 _ _ ha)⟩, forT_of (xs := held.map vO) Pv ?_ ?_ ?_ ?_⟩
    · rw [hPv]
      exact ⟨_, rfl, s3, h3⟩
    · intro i σ H' _ hp'
      rw [hPv] at hp'
      obtain ⟨_, _, hS, _⟩ := hp'
      exact hS _ _ (S2 _ _ ha)
    · intro i x σ H' hx hp'
      rw [hPv] at hp'
      obtain ⟨n3, rfl, hS, hacc'⟩ := hp'
      rw [List.getElem?_map] at hx
      obtain ⟨o, ho, rfl⟩ := Option.map_eq_some_iff.mp hx
      have hi := (List.getElem?_eq_some_iff.mp ho).1
      have er : (ranks held)[i]? = some (o.map fun v => (rk (kn held) v : Int)) := by
        unfold ranks
        rw [List.getElem?_map, ho]
        rfl
      have hlen : (((ranks held).take i).map vO).length < sizeLine := by
        rw [List.length_map, List.length_take, sizeLine_eq]
        omega
      have et : ((ranks held).take (i + 1)).map vO = ((ranks held).take i).map vO ++ [vO (o.map fun v => (rk (kn held) v : Int))] := by
        rw [List.take_add_one, er, List.map_append]
        rfl
      cases o with
      | none =>
        wp_walk using vO, hacc'
        refine ⟨hlen, ?_⟩
        rw [hPv]
        exact ⟨_, rfl, same_lst hS hL, by rw [upd_same, et]; rfl⟩
      | some n =>
        wp_walk using vO, hacc', hS _ _ hp
        refine idx_of (Q := fun j => _ ∧ Pv (i + 1) _ (upd H' L (HO.lst (_ ++ [V.int j])))) (kn_sorted held) (mem_kn.mpr (List.mem_of_getElem? ho)) ?_
        refine ⟨hlen, ?_⟩
        rw [hPv]
        exact ⟨_, rfl, same_lst hS hL, by rw [upd_same, et]; rfl⟩
    · intro σ H' hp'
      rw [hPv] at hp'
      obtain ⟨n3, rfl, hS, hacc'⟩ := hp'
      wp_walk using hacc'
      refine new_tup1V fun p5 H5 s5 h5 => q p5 H5 ((S2.trans hS).trans s5) ?_
      rw [h5, List.length_map, ← ranks_length held, List.take_length]

abbrev N_spots_of : List PySem.Str := ["ranks", "rank"]
theorem sc_spots_of : FnScope N_spots_of ["ranks"] (defScope s_spots_of) := ⟨rfl, rfl, rfl, by decide +kernel, rfl, by decide +kernel, by decide +kernel⟩
theorem c_spots_of (D : Df K mg "spots_of" s_spots_of) (T : Tx K mg) : Cal P w K mg base "spots_of" 1 ["ranks"] spSpots := by
  refine D.cal sc_spots_of (by rintro vs H Q E ⟨_, _, rfl, _⟩; rfl) (fun _ _ _ _ _ _ us hl => match us, hl with | [_], _ => rfl) fun f cdv A outer s H vs Q E hr h => ?_
  have hu : (A.deeper (envOfC "spots_of" (defScope s_spots_of) s.heap.objs.size f cdv)).units + 64 < cLine := hr.units
  obtain ⟨rs, a, rfl, ha, hl, q⟩ := h
  refine ⟨_, (pss_one (ps_ret (pe_op op_add (pe_op op_mul pe_int (pe_callB cr_lenI (by rfl) T.nlen (by decide +kernel) (pa_cons (pe_scN rfl (pv 0) (by rfl) (by decide +kernel) rfl (by decide +kernel) rfl) pa_nil))) pe_int))), ?_⟩
  wp_walk using u_scN
  refine ⟨a, rs, rfl, ha, hl, fun p c hp => ⟨p, vals rs, c, rfl, upd_same, ?_⟩⟩
  wp_walk using u_c
  exact ⟨.inl ⟨by decide, by decide⟩, q _ (same_new hp)⟩

abbrev N_l_many : List PySem.Str := ["_law_ranks_here", "_law_rank"]
theorem sc_l_many : FnScope N_l_many ["_law_ranks_here"] (defScope s_l_many) := ⟨rfl, rfl, rfl, by decide +kernel, rfl, by decide +kernel, by decide +kernel⟩
theorem c_l_many (D : Df K mg "_law_many" s_l_many) (T : Tx K mg) : Cal P w K mg base "_law_many" 1 ["_law_ranks_here"] spMany := by
  refine D.cal sc_l_many (by rintro vs H Q E ⟨_, _, rfl, _⟩; rfl) (fun _ _ _ _ _ _ us hl => match us, hl with | [_], _ => rfl) fun f cdv A outer s H vs Q E hr h => ?_
  have hu : (A.deeper (envOfC "_law_many" (defScope s_l_many) s.heap.objs.size f cdv)).units + 64 < cLine := hr.units
  obtain ⟨held, a, rfl, ha, hl, q⟩ := h
  refine ⟨_, (pss_one (ps_ret (pe_callB cr_lenI (by rfl) T.nlen (by decide +kernel) (pa_cons (pe_callTy (cr_setI rfl) (by rfl) T.nset (by decide +kernel) (pa_cons (pe_lc (own := [("_law_rank", 1)]) rfl sc_l_many.nd (pi_tup (pv 0)) (blkOk_by (own := [("_law_rank", 1)]) (N := N_l_many) (sc := defScope s_l_many) (by decide +kernel)) (fun _ _ _ _ _ => (pg_name (i := 1) sc_l_many.nd rfl (Or.inl rfl))) (fun _ _ _ _ _ => (pts_one (pt_cmp (pc_notN (pv 1)) rfl))) (fun _ _ _ _ _ => (pv 1))) pa_nil)) pa_nil)))), ?_⟩
  wp_walk using u_lcT
  refine ⟨⟨_, SqT.of ha⟩, lcT_of (R := FlatR V.int) (keep := held) ha flat_tub (by rw [List.length_map]) (by rw [List.length_map]; omega) (fun i x hxi H' C N hS hC hN => ?_) fun D acc H1 s1 hD hacc hA => ?_⟩
  · rw [List.getElem?_map] at hxi
    obtain ⟨o, ho, rfl⟩ := Option.map_eq_some_iff.mp hxi
    cases o with
    | none =>
      wp_walk using vO
      exact hN _ ho (Same.refl _)
    | some n =>
      wp_walk using vO
      exact hC _ _ n ho (Same.refl _) rfl
  · have ea := hA.flat
    subst ea
    wp_walk using hacc
    exact len_set_of hacc (Nat.le_trans (List.length_filterMap_le _ _) hl) fun H2 s2 => q H2 (s1.trans s2)

end
section
variable {P : Program} {w : World} {K : PySem.W.Frag} {mg : PySem.Str → Option Value} {base : Heap}

abbrev N_l_at : List PySem.Str := ["_law_source", "_law_value", "_law_held"]
theorem sc_l_at : FnScope N_l_at ["_law_source", "_law_value", "_law_held"] (defScope s_l_at) := ⟨rfl, rfl, rfl, by decide +kernel, rfl, by decide +kernel, by decide +kernel⟩
theorem c_l_at (D : Df K mg "_law_at" s_l_at) (T : Tx K mg) : Cal P w K mg base "_law_at" 1 ["_law_source", "_law_value", "_law_held"] spVal := by
  refine D.cal sc_l_at (by rintro vs H Q E ⟨_, _, _, _, rfl, _⟩; rfl) (fun _ _ _ _ _ _ us hl => match us, hl with | [_, _, _], _ => rfl) fun f cdv A outer s H vs Q E hr h => ?_
  have hu : (A.deeper (envOfC "_law_at" (defScope s_l_at) s.heap.objs.size f cdv)).units + 64 < cLine := hr.units
  obtain ⟨src, v, held, a, rfl, ha, hs, q⟩ := h
  refine ⟨_, (pss_cons (ps_if (pt_cmpR op_eq (pv 0) (pe_un un_neg pe_int) (nomark _)) (pss_one (ps_ret pe_non)) pss_nil)
    (pss_cons (ps_if (pt_cmpR op_eq (pv 0) (pe_un un_neg pe_int) (nomark _)) (pss_one (ps_ret (pv 1))) pss_nil)
    (pss_one (ps_ret (pe_ix ixT (pv 2) (pv 0) (fun _ _ => rfl)))))), ?_⟩
  wp_walk using ha
  refine ite2 (fun h2 => ?_) fun h2 => ite2 (fun h1 => ?_) fun h1 => ?_
  · unfold at1 at q
    rw [if_neg (by omega), if_pos h2] at q
    exact q
  · unfold at1 at q
    rwa [if_pos h1] at q
  · exact ⟨_, val_at hs h1 h2 v, q⟩

theorem niB (bs : List Bool) : (!inV (.bl false) (bs.map V.bl)) = bs.all id := by
  induction bs with
  | nil => rfl
  | cons b bs ih =>
    unfold inV at ih ⊢
    rw [List.map_cons, List.any_cons, Bool.not_or, ih, List.all_cons]
    cases b <;> rfl
theorem inB (bs : List Bool) : inV (.bl true) (bs.map V.bl) = bs.any id := by
  induction bs with
  | nil => rfl
  | cons b bs ih =>
    unfold inV at ih ⊢
    rw [List.map_cons, List.any_cons, ih, List.any_cons]
    cases b <;> rfl
theorem flatB (bs : List Bool) : (bs.map V.bl).all flatV = true := by
  rw [List.all_map]
  exact List.all_eq_true.mpr fun _ _ => rfl
abbrev N_l_holds : List PySem.Str := ["_law_condition_here", "_law_value", "_law_held", "_law_kind", "_law_one", "_law_other", "_law_part"]
theorem sc_l_holds : FnScope N_l_holds ["_law_condition_here", "_law_value", "_law_held"] (defScope s_l_holds) := ⟨rfl, rfl, rfl, by decide +kernel, rfl, by decide +kernel, by decide +kernel⟩
theorem c_l_holds (D : Df K mg "_law_holds" s_l_holds) (T : Tx K mg) {kind : Cn → Prop} {R : Sp} {j : Nat} (hR : ∀ c, kind c → isLf c ∨ ∀ vs H Q E, spH isLf vs H Q E → R vs H Q E) (C_l_at : Cal P w K mg base "_law_at" 1 ["_law_source", "_law_value", "_law_held"] spVal) (C_l_holds : Cal P w K mg base "_law_holds" j ["_law_condition_here", "_law_value", "_law_held"] R) : Cal P w K mg base "_law_holds" (j + 1 + 1) ["_law_condition_here", "_law_value", "_law_held"] (spH kind) := by
  refine D.cal sc_l_holds (by rintro vs H Q E ⟨_, _, _, _, _, rfl, _⟩; rfl) (fun _ _ _ _ _ _ us hl => match us, hl with | [_, _, _], _ => rfl) fun f cdv A outer s H vs Q E hr h => ?_
  have hu : (A.deeper (envOfC "_law_holds" (defScope s_l_holds) s.heap.objs.size f cdv)).units + 64 < cLine := hr.units
  obtain ⟨c, v, held, x, a, rfl, hkind, hx, ha, hok, q⟩ := h
  have q0 : Q (.bl (evC v held c)) H := q H (Same.refl H)
  refine ⟨_, (pss_cons (ps_set (i := 3) sc_l_holds.nd rfl (Or.inl rfl) (pe_ix ixT (pv 0) pe_int (fun _ _ => rfl)))
    (pss_cons (ps_if (pt_cmpR op_eq (pv 3) pe_str (nomark _)) (pss_one (ps_ret (pe_not (pe_cal C_l_holds hr (pa_cons (pe_ix ixT (pv 0) pe_int (fun _ _ => rfl)) (pa_cons (pv 1) (pa_cons (pv 2) pa_nil))))))) pss_nil)
    (pss_cons (ps_if (pt_cmpR op_eq (pv 3) pe_str (nomark _)) (pss_one (ps_ret (pe_cmpR op_niL pe_bl (pe_lc (own := [("_law_part", 6)]) rfl sc_l_holds.nd (pi_tup (pe_ix ixT (pv 0) pe_int (fun _ _ => rfl))) (blkOk_by (own := [("_law_part", 6)]) (N := N_l_holds) (sc := defScope s_l_holds) (by decide +kernel)) (fun _ _ _ _ _ => (pg_name (i := 6) sc_l_holds.nd rfl (Or.inl rfl))) (fun _ _ _ _ _ => pts_nil) (fun _ _ _ _ _ => (pe_cal C_l_holds hr (pa_cons (pv 6) (pa_cons (pv 1) (pa_cons (pv 2) pa_nil)))))) rfl))) pss_nil)
    (pss_cons (ps_if (pt_cmpR op_eq (pv 3) pe_str (nomark _)) (pss_one (ps_ret (pe_cmpR op_inL pe_bl (pe_lc (own := [("_law_part", 6)]) rfl sc_l_holds.nd (pi_tup (pe_ix ixT (pv 0) pe_int (fun _ _ => rfl))) (blkOk_by (own := [("_law_part", 6)]) (N := N_l_holds) (sc := defScope s_l_holds) (by decide +kernel)) (fun _ _ _ _ _ => (pg_name (i := 6) sc_l_holds.nd rfl (Or.inl rfl))) (fun _ _ _ _ _ => pts_nil) (fun _ _ _ _ _ => (pe_cal C_l_holds hr (pa_cons (pv 6) (pa_cons (pv 1) (pa_cons (pv 2) pa_nil)))))) rfl))) pss_nil)
    (pss_cons (ps_if (PW.pt (pw_or (pt_cmpR op_eq (pv 3) pe_str (nomark _)) (pw_or1 (pt_cmpR op_eq (pv 3) pe_str (nomark _))))) (pss_one (ps_ret (pe_cmpR op_eq (pv 3) pe_str (nomark _)))) pss_nil)
    (pss_cons (ps_set (i := 4) sc_l_holds.nd rfl (Or.inl rfl) (pe_cal C_l_at hr (pa_cons (pe_ix ixT (pv 0) pe_int (fun _ _ => rfl)) (pa_cons (pv 1) (pa_cons (pv 2) pa_nil)))))
    (pss_cons (ps_if (pt_cmpR op_eq (pv 3) pe_str (nomark _)) (pss_one (ps_ret (pe_cmp (pc_isN (pv 4)) rfl))) pss_nil)
    (pss_cons (ps_set (i := 5) sc_l_holds.nd rfl (Or.inl rfl) (pe_cal C_l_at hr (pa_cons (pe_ix ixT (pv 0) pe_int (fun _ _ => rfl)) (pa_cons (pv 1) (pa_cons (pv 2) pa_nil)))))
    (pss_cons (ps_if (PW.pt (pw_or (pt_cmp (pc_isN (pv 4)) rfl) (pw_or1 (pt_cmp (pc_isN (pv 5)) rfl)))) (pss_one (ps_ret pe_bl)) pss_nil)
    (pss_cons (ps_if (pt_cmpR op_eq (pv 3) pe_str (nomark _)) (pss_one (ps_ret (pe_cmpR op_lt (pv 4) (pv 5) (nomark _)))) pss_nil)
    (pss_one (ps_ret (pe_cmpR op_eq (pv 4) (pv 5) (nomark _)))))))))))))), ?_⟩
  cases c with
  | lf l =>
    cases l with
    | tt =>
      obtain ⟨p, u, rfl, hp, hu1⟩ := rp_1 hx
      cases rp_text hu1
      wp_walk using hp, ne_true_false, ne_true_not, ne_true_all, ne_true_any, ne_true_empty, ne_true_less, ne_false_true, ne_false_not, ne_false_all, ne_false_any, ne_false_empty, ne_false_less, ne_less_true, ne_less_false, ne_less_not, ne_less_all, ne_less_any, ne_less_empty, ne_same_true, ne_same_false, ne_same_not, ne_same_all, ne_same_any, ne_same_empty, ne_same_less, ne_empty_true, ne_empty_false, ne_empty_not, ne_empty_all, ne_empty_any, ne_empty_less, ne_not_true, ne_not_false, ne_not_all, ne_not_any, ne_not_empty, ne_not_less, ne_all_true, ne_all_false, ne_all_not, ne_all_any, ne_all_empty, ne_all_less, ne_any_true, ne_any_false, ne_any_not, ne_any_all, ne_any_empty, ne_any_less
      exact q0
    | ff =>
      obtain ⟨p, u, rfl, hp, hu1⟩ := rp_1 hx
      cases rp_text hu1
      wp_walk using hp, ne_true_false, ne_true_not, ne_true_all, ne_true_any, ne_true_empty, ne_true_less, ne_false_true, ne_false_not, ne_false_all, ne_false_any, ne_false_empty, ne_false_less, ne_less_true, ne_less_false, ne_less_not, ne_less_all, ne_less_any, ne_less_empty, ne_same_true, ne_same_false, ne_same_not, ne_same_all, ne_same_any, ne_same_empty, ne_same_less, ne_empty_true, ne_empty_false, ne_empty_not, ne_empty_all, ne_empty_any, ne_empty_less, ne_not_true, ne_not_false, ne_not_all, ne_not_any, ne_not_empty, ne_not_less, ne_all_true, ne_all_false, ne_all_not, ne_all_any, ne_all_empty, ne_all_less, ne_any_true, ne_any_false, ne_any_not, ne_any_all, ne_any_empty, ne_any_less
      exact q0
    | ls b c =>
      obtain ⟨p, u1, u2, u3, rfl, hp, e1, e2, e3⟩ := rp_3 hx
      cases rp_text e1
      cases rp_num e2
      cases rp_num e3
      wp_walk using hp, ne_true_false, ne_true_not, ne_true_all, ne_true_any, ne_true_empty, ne_true_less, ne_false_true, ne_false_not, ne_false_all, ne_false_any, ne_false_empty, ne_false_less, ne_less_true, ne_less_false, ne_less_not, ne_less_all, ne_less_any, ne_less_empty, ne_same_true, ne_same_false, ne_same_not, ne_same_all, ne_same_any, ne_same_empty, ne_same_less, ne_empty_true, ne_empty_false, ne_empty_not, ne_empty_all, ne_empty_any, ne_empty_less, ne_not_true, ne_not_false, ne_not_all, ne_not_any, ne_not_empty, ne_not_less, ne_all_true, ne_all_false, ne_all_not, ne_all_any, ne_all_empty, ne_all_less, ne_any_true, ne_any_false, ne_any_not, ne_any_all, ne_any_empty, ne_any_less
      refine ⟨_, _, held, a, rfl, ha, okP_S hok.1, ?_⟩
      wp_walk using hp
      refine ⟨_, _, held, a, rfl, ha, okP_S hok.2, ?_⟩
      simp only [evC, evL] at q0
      cases h1 : at1 b v held <;> cases h2 : at1 c v held <;> simp only [h1, h2] at q0 <;> simpa [vO] using q0
    | sm b c =>
      obtain ⟨p, u1, u2, u3, rfl, hp, e1, e2, e3⟩ := rp_3 hx
      cases rp_text e1
      cases rp_num e2
      cases rp_num e3
      wp_walk using hp, ne_true_false, ne_true_not, ne_true_all, ne_true_any, ne_true_empty, ne_true_less, ne_false_true, ne_false_not, ne_false_all, ne_false_any, ne_false_empty, ne_false_less, ne_less_true, ne_less_false, ne_less_not, ne_less_all, ne_less_any, ne_less_empty, ne_same_true, ne_same_false, ne_same_not, ne_same_all, ne_same_any, ne_same_empty, ne_same_less, ne_empty_true, ne_empty_false, ne_empty_not, ne_empty_all, ne_empty_any, ne_empty_less, ne_not_true, ne_not_false, ne_not_all, ne_not_any, ne_not_empty, ne_not_less, ne_all_true, ne_all_false, ne_all_not, ne_all_any, ne_all_empty, ne_all_less, ne_any_true, ne_any_false, ne_any_not, ne_any_all, ne_any_empty, ne_any_less
      refine ⟨_, _, held, a, rfl, ha, okP_S hok.1, ?_⟩
      wp_walk using hp
      refine ⟨_, _, held, a, rfl, ha, okP_S hok.2, ?_⟩
      simp only [evC, evL] at q0
      cases h1 : at1 b v held <;> cases h2 : at1 c v held <;> simp only [h1, h2] at q0 <;> simpa [vO, scal] using q0
    | em b =>
      obtain ⟨p, u1, u2, rfl, hp, e1, e2⟩ := rp_2 hx
      cases rp_text e1
      cases rp_num e2
      wp_walk using hp, ne_true_false, ne_true_not, ne_true_all, ne_true_any, ne_true_empty, ne_true_less, ne_false_true, ne_false_not, ne_false_all, ne_false_any, ne_false_empty, ne_false_less, ne_less_true, ne_less_false, ne_less_not, ne_less_all, ne_less_any, ne_less_empty, ne_same_true, ne_same_false, ne_same_not, ne_same_all, ne_same_any, ne_same_empty, ne_same_less, ne_empty_true, ne_empty_false, ne_empty_not, ne_empty_all, ne_empty_any, ne_empty_less, ne_not_true, ne_not_false, ne_not_all, ne_not_any, ne_not_empty, ne_not_less, ne_all_true, ne_all_false, ne_all_not, ne_all_any, ne_all_empty, ne_all_less, ne_any_true, ne_any_false, ne_any_not, ne_any_all, ne_any_empty, ne_any_less
      refine ⟨_, _, held, a, rfl, ha, okP_S hok, ?_⟩
      show Q (.bl (decide (vO (at1 b v held) = .non))) H
      rw [vO_non]
      exact q0
  | nt l =>
    obtain ⟨p, u1, u2, rfl, hp, e1, e2⟩ := rp_2 hx
    cases rp_text e1
    wp_walk using hp, ne_true_false, ne_true_not, ne_true_all, ne_true_any, ne_true_empty, ne_true_less, ne_false_true, ne_false_not, ne_false_all, ne_false_any, ne_false_empty, ne_false_less, ne_less_true, ne_less_false, ne_less_not, ne_less_all, ne_less_any, ne_less_empty, ne_same_true, ne_same_false, ne_same_not, ne_same_all, ne_same_any, ne_same_empty, ne_same_less, ne_empty_true, ne_empty_false, ne_empty_not, ne_empty_all, ne_empty_any, ne_empty_less, ne_not_true, ne_not_false, ne_not_all, ne_not_any, ne_not_empty, ne_not_less, ne_all_true, ne_all_false, ne_all_not, ne_all_any, ne_all_empty, ne_all_less, ne_any_true, ne_any_false, ne_any_not, ne_any_all, ne_any_empty, ne_any_less
    refine (hR (.nt l) hkind).elim (fun z => z.elim) fun z => z _ _ _ _ ⟨.lf l, v, held, u2, a, rfl, trivial, e2, ha, hok, fun H' s' => ⟨_, rfl, q H' s'⟩⟩
  | al ls =>
    obtain ⟨p, u1, u2, rfl, hp, e1, e2⟩ := rp_2 hx
    cases rp_text e1
    obtain ⟨p2, vs, rfl, hp2, hvs⟩ := rp_tup e2
    wp_walk using hp, ne_true_false, ne_true_not, ne_true_all, ne_true_any, ne_true_empty, ne_true_less, ne_false_true, ne_false_not, ne_false_all, ne_false_any, ne_false_empty, ne_false_less, ne_less_true, ne_less_false, ne_less_not, ne_less_all, ne_less_any, ne_less_empty, ne_same_true, ne_same_false, ne_same_not, ne_same_all, ne_same_any, ne_same_empty, ne_same_less, ne_empty_true, ne_empty_false, ne_empty_not, ne_empty_all, ne_empty_any, ne_empty_less, ne_not_true, ne_not_false, ne_not_all, ne_not_any, ne_not_empty, ne_not_less, ne_all_true, ne_all_false, ne_all_not, ne_all_any, ne_all_empty, ne_all_less, ne_any_true, ne_any_false, ne_any_not, ne_any_all, ne_any_empty, ne_any_less, u_lcT
    have hle : vs.length = ls.length := by rw [hvs.length, List.length_map]
    refine ⟨⟨_, SqT.of hp2⟩, lcT_of (R := FlatR V.bl) (keep := ls.map fun l => some (evL v held l)) hp2 flat_tub (by rw [List.length_map, hle]) (by have := hok.1; omega) (fun i x hxi H' C N hS hC hN => ?_) fun D acc H' hS hD hacc hA => ?_⟩
    · wp_walk using u_c
      obtain ⟨k, hk1, hk2⟩ := hvs.get2 hxi
      rw [List.getElem?_map] at hk1
      obtain ⟨l, hl1, rfl⟩ := Option.map_eq_some_iff.mp hk1
      have hl2 : okL held.length l := hok.2 l (List.mem_of_getElem? hl1)
      refine (hR (.al ls) hkind).elim (fun z => z.elim) fun z => z _ _ _ _ ⟨.lf l, v, held, x, a, rfl, trivial, hk2.up hS, hS _ _ ha, hl2, fun H4 hS4 => hC _ _ (evL v held l) (by rw [List.getElem?_map, hl1]; rfl) hS4 rfl⟩
    · have e := hA.flat
      have e2 : (ls.map fun l => some (evL v held l)).filterMap id = ls.map (evL v held) := by
        rw [List.filterMap_map]
        exact congrFun List.filterMap_eq_map' ls
      rw [e2] at e
      subst e
      wp_walk using hacc, flatV, flatB, niB, if_true
      have := q H' hS
      simp only [evC] at this
      rw [List.all_map]
      exact this
  | an ls =>
    obtain ⟨p, u1, u2, rfl, hp, e1, e2⟩ := rp_2 hx
    cases rp_text e1
    obtain ⟨p2, vs, rfl, hp2, hvs⟩ := rp_tup e2
    wp_walk using hp, ne_true_false, ne_true_not, ne_true_all, ne_true_any, ne_true_empty, ne_true_less, ne_false_true, ne_false_not, ne_false_all, ne_false_any, ne_false_empty, ne_false_less, ne_less_true, ne_less_false, ne_less_not, ne_less_all, ne_less_any, ne_less_empty, ne_same_true, ne_same_false, ne_same_not, ne_same_all, ne_same_any, ne_same_empty, ne_same_less, ne_empty_true, ne_empty_false, ne_empty_not, ne_empty_all, ne_empty_any, ne_empty_less, ne_not_true, ne_not_false, ne_not_all, ne_not_any, ne_not_empty, ne_not_less, ne_all_true, ne_all_false, ne_all_not, ne_all_any, ne_all_empty, ne_all_less, ne_any_true, ne_any_false, ne_any_not, ne_any_all, ne_any_empty, ne_any_less, u_lcT
    have hle : vs.length = ls.length := by rw [hvs.length, List.length_map]
    refine ⟨⟨_, SqT.of hp2⟩, lcT_of (R := FlatR V.bl) (keep := ls.map fun l => some (evL v held l)) hp2 flat_tub (by rw [List.length_map, hle]) (by have := hok.1; omega) (fun i x hxi H' C N hS hC hN => ?_) fun D acc H' hS hD hacc hA => ?_⟩
    · wp_walk using u_c
      obtain ⟨k, hk1, hk2⟩ := hvs.get2 hxi
      rw [List.getElem?_map] at hk1
      obtain ⟨l, hl1, rfl⟩ := Option.map_eq_some_iff.mp hk1
      have hl2 : okL held.length l := hok.2 l (List.mem_of_getElem? hl1)
      refine (hR (.an ls) hkind).elim (fun z => z.elim) fun z => z _ _ _ _ ⟨.lf l, v, held, x, a, rfl, trivial, hk2.up hS, hS _ _ ha, hl2, fun H4 hS4 => hC _ _ (evL v held l) (by rw [List.getElem?_map, hl1]; rfl) hS4 rfl⟩
    · have e := hA.flat
      have e2 : (ls.map fun l => some (evL v held l)).filterMap id = ls.map (evL v held) := by
        rw [List.filterMap_map]
        exact congrFun List.filterMap_eq_map' ls
      rw [e2] at e
      subst e
      wp_walk using hacc, flatV, flatB, inB, if_false
      have := q H' hS
      simp only [evC] at this
      rw [List.any_map]
      exact this

end
section
variable {P : Program} {w : World} {K : PySem.W.Frag} {mg : PySem.Str → Option Value} {base : Heap}

abbrev N_l_case : List PySem.Str := ["_law_machine_here", "_law_content", "_law_entry", "_law_cases", "_law_k"]
theorem sc_l_case : FnScope N_l_case ["_law_machine_here", "_law_content", "_law_entry"] (defScope s_l_case) := ⟨rfl, rfl, rfl, by decide +kernel, rfl, by decide +kernel, by decide +kernel⟩
theorem c_l_case (D : Df K mg "_law_case" s_l_case) (T : Tx K mg) (C_l_holds : Cal P w K mg base "_law_holds" 4 ["_law_condition_here", "_law_value", "_law_held"] (spH fun _ => True)) : Cal P w K mg base "_law_case" 5 ["_law_machine_here", "_law_content", "_law_entry"] spCase := by
  refine D.cal sc_l_case (by rintro vs H Q E ⟨_, _, _, _, _, _, _, rfl, _⟩; rfl) (fun _ _ _ _ _ _ us hl => match us, hl with | [_, _, _], _ => rfl) fun f cdv A outer s H vs Q E hr h => ?_
  have hu : (A.deeper (envOfC "_law_case" (defScope s_l_case) s.heap.objs.size f cdv)).units + 64 < cLine := hr.units
  obtain ⟨m, c, t, v, xm, xc, xe, rfl, ok, okc, ht, hm, hc, he, q⟩ := h
  refine ⟨_, (pss_cons (ps_set (i := 3) sc_l_case.nd rfl (Or.inl rfl) (pe_ix ixT (pe_ix ixT (pe_ix ixT (pv 0) pe_int (fun _ _ => rfl)) (pe_ix ixT (pv 1) pe_int (fun _ _ => rfl)) (fun _ _ => rfl)) (pe_ix ixT (pv 2) pe_int (fun _ _ => rfl)) (fun _ _ => rfl)))
    (pss_cons (ps_for PassesOwn.never rfl (pi_range1 (by rfl) T.nrange (pa_cons (pe_callB cr_lenT (by rfl) T.nlen (by decide +kernel) (pa_cons (pv 3) pa_nil)) pa_nil)) (pg_name (i := 4) sc_l_case.nd rfl (Or.inl rfl)) (pss_one (ps_if (pt_val (pe_cal C_l_holds hr (pa_cons (pe_ix ixT (pe_ix ixT (pv 3) (pv 4) (fun _ _ => rfl)) pe_int (fun _ _ => rfl)) (pa_cons (pe_ix ixT (pv 2) pe_int (fun _ _ => rfl)) (pa_cons (pe_ix ixT (pv 1) pe_int (fun _ _ => rfl)) pa_nil))))) (pss_one (ps_ret (pv 4))) pss_nil)))
    (pss_one (ps_ret pe_non)))), ?_⟩
  obtain ⟨pm, am, rows, rfl, m1, m2, m3⟩ := rp_m hm
  obtain ⟨pc, ac, rfl, c1, c2⟩ := rp_ct hc
  obtain ⟨pe, rfl, e1⟩ := rp_e he
  obtain ⟨p1, row, p2, cs, r1, r2, r3, r4, r5, r6⟩ := rp_cases ok okc.1 ht m3
  have hl : cs.length = (cases m c.1 t).length := by rw [r5.length, List.length_map]
  wp_walk using u_forR, c1, e1, m1, m2, atI_z, r1, r2, r3, r4
  obtain ⟨Pv, hPv⟩ : ∃ Pv : Nat → L2.St → Hp → Prop, Pv = fun i σ H' => (∃ n, σ = [some (.ref pm), some (.ref pc), some (.ref pe), some (.ref p2), n]) ∧ Same H H' ∧ ∀ j, j < i → ∀ k, (cases m c.1 t)[j]? = some k → evC v c.2 k.cond = false := ⟨_, rfl⟩
  have h100 := r6.1
  refine ⟨⟨by omega, by omega⟩, ?_⟩
  rw [Int.toNat_natCast]
  refine forR_of Pv ?_ ?_ ?_
  · rw [hPv]
    exact ⟨⟨_, rfl⟩, Same.refl H, fun j hj => absurd hj (Nat.not_lt_zero j)⟩
  · intro i σ H' hi hp
    rw [hPv] at hp
    obtain ⟨⟨n, rfl⟩, hS, hno⟩ := hp
    obtain ⟨x, hx⟩ : ∃ x, cs[i]? = some x := ⟨_, List.getElem?_eq_getElem hi⟩
    obtain ⟨k, hk1, hk2⟩ := r5.get2 hx
    rw [List.getElem?_map] at hk1
    obtain ⟨kk, hkk, rfl⟩ := Option.map_eq_some_iff.mp hk1
    obtain ⟨pk, u, b1, b2, rfl, k1, k2, k3, k4⟩ := rp_k (hk2.up hS)
    have okk := r6.2 kk (List.mem_of_getElem? hkk)
    wp_walk using hS _ _ r4, atI_z, hx, k1, hS _ _ e1, hS _ _ c1
    refine ⟨kk.cond, v, c.2, u, ac, rfl, trivial, k2, hS _ _ c2, by rw [okc.2]; exact okk.cond, fun H4 hS4 => ⟨_, rfl, ?_⟩⟩
    refine ite2 (fun ht => ?_) fun ht => ?_
    · wp_walk using u_c
      have e : pick m c t v = some i := by
        unfold pick
        rw [List.findIdx?_eq_some_iff_getElem]
        obtain ⟨hi, ei⟩ := List.getElem?_eq_some_iff.mp hkk
        refine ⟨hi, by rw [ei]; exact ht, fun j hj => ?_⟩
        have := hno j hj _ (List.getElem?_eq_getElem (Nat.lt_trans hj hi))
        simpa using this
      have := q H4 (hS.trans hS4)
      rw [e] at this
      exact this
    · wp_walk using u_c
      rw [hPv]
      refine ⟨⟨_, rfl⟩, hS.trans hS4, fun j hj k' hk' => ?_⟩
      rcases Nat.lt_succ_iff_lt_or_eq.mp hj with h | h
      · exact hno j h k' hk'
      · subst h
        rw [hkk] at hk'
        cases hk'
        simpa using ht
  · intro σ H' hp
    rw [hPv] at hp
    obtain ⟨⟨n, rfl⟩, hS, hno⟩ := hp
    wp_walk using u_c
    have e : pick m c t v = none := by
      unfold pick
      rw [List.findIdx?_eq_none_iff]
      intro x hx
      obtain ⟨j, hj⟩ := List.mem_iff_getElem?.mp hx
      have hjl := (List.getElem?_eq_some_iff.mp hj).1
      have := hno j (by omega) x hj
      simpa using this
    have := q H' hS
    rw [e] at this
    exact this

abbrev N_l_read : List PySem.Str := ["_law_machine_here", "_law_content", "_law_entry", "_law_number", "_law_case_here", "_law_held", "_law_source", "_law_said"]
theorem sc_l_read : FnScope N_l_read ["_law_machine_here", "_law_content", "_law_entry"] (defScope s_l_read) := ⟨rfl, rfl, rfl, by decide +kernel, rfl, by decide +kernel, by decide +kernel⟩
theorem c_l_read (D : Df K mg "_law_read" s_l_read) (T : Tx K mg) (C_l_case : Cal P w K mg base "_law_case" 5 ["_law_machine_here", "_law_content", "_law_entry"] spCase) (C_l_at : Cal P w K mg base "_law_at" 1 ["_law_source", "_law_value", "_law_held"] spVal) : Cal P w K mg base "_law_read" 6 ["_law_machine_here", "_law_content", "_law_entry"] spRead := by
  refine D.cal sc_l_read (by rintro vs H Q E ⟨_, _, _, _, _, _, _, rfl, _⟩; rfl) (fun _ _ _ _ _ _ us hl => match us, hl with | [_, _, _], _ => rfl) fun f cdv A outer s H vs Q E hr h => ?_
  have hu : (A.deeper (envOfC "_law_read" (defScope s_l_read) s.heap.objs.size f cdv)).units + 64 < cLine := hr.units
  obtain ⟨m, c, t, v, xm, xc, xe, rfl, ok, okc, ht, hm, hc, he, q⟩ := h
  refine ⟨_, (pss_cons (ps_set (i := 3) sc_l_read.nd rfl (Or.inl rfl) (pe_cal C_l_case hr (pa_cons (pv 0) (pa_cons (pv 1) (pa_cons (pv 2) pa_nil)))))
    (pss_cons (ps_if (pt_cmp (pc_isN (pv 3)) rfl) (pss_one (ps_ret (pe_tup (pa_cons (pv 1) (pa_cons (pe_tup pa_nil) pa_nil))))) pss_nil)
    (pss_cons (ps_set (i := 4) sc_l_read.nd rfl (Or.inl rfl) (pe_ix ixT (pe_ix ixT (pe_ix ixT (pe_ix ixT (pv 0) pe_int (fun _ _ => rfl)) (pe_ix ixT (pv 1) pe_int (fun _ _ => rfl)) (fun _ _ => rfl)) (pe_ix ixT (pv 2) pe_int (fun _ _ => rfl)) (fun _ _ => rfl)) (pv 3) (fun _ _ => rfl)))
    (pss_cons (ps_set (i := 5) sc_l_read.nd rfl (Or.inl rfl) (pe_callTy cr_tupL (by rfl) T.ntuple (by decide +kernel) (pa_cons (pe_lc (own := [("_law_source", 6)]) rfl sc_l_read.nd (pi_tup (pe_ix ixT (pv 4) pe_int (fun _ _ => rfl))) (blkOk_by (own := [("_law_source", 6)]) (N := N_l_read) (sc := defScope s_l_read) (by decide +kernel)) (fun _ _ _ _ _ => (pg_name (i := 6) sc_l_read.nd rfl (Or.inl rfl))) (fun _ _ _ _ _ => pts_nil) (fun _ _ _ _ _ => (pe_cal C_l_at hr (pa_cons (pv 6) (pa_cons (pe_ix ixT (pv 2) pe_int (fun _ _ => rfl)) (pa_cons (pe_ix ixT (pv 1) pe_int (fun _ _ => rfl)) pa_nil)))))) pa_nil)))
    (pss_one (ps_ret (pe_tup (pa_cons (pe_tup (pa_cons (pe_ix ixT (pv 4) pe_int (fun _ _ => rfl)) (pa_cons (pv 5) pa_nil))) (pa_cons (pe_callTy cr_tupL (by rfl) T.ntuple (by decide +kernel) (pa_cons (pe_lc (own := [("_law_said", 7)]) rfl sc_l_read.nd (pi_tup (pe_ix ixT (pv 4) pe_int (fun _ _ => rfl))) (blkOk_by (own := [("_law_said", 7)]) (N := N_l_read) (sc := defScope s_l_read) (by decide +kernel)) (fun _ _ _ _ _ => (pg_name (i := 7) sc_l_read.nd rfl (Or.inl rfl))) (fun _ _ _ _ _ => pts_nil) (fun _ _ _ _ _ => (pe_tup (pa_cons (pe_ix ixT (pv 7) pe_int (fun _ _ => rfl)) (pa_cons (pe_cal C_l_at hr (pa_cons (pe_ix ixT (pv 7) pe_int (fun _ _ => rfl)) (pa_cons (pe_ix ixT (pv 2) pe_int (fun _ _ => rfl)) (pa_cons (pe_ix ixT (pv 1) pe_int (fun _ _ => rfl)) pa_nil)))) pa_nil))))) pa_nil)) pa_nil))))))))), ?_⟩
  obtain ⟨pm, am, rows, rfl, m1, m2, m3⟩ := rp_m hm
  obtain ⟨pc, ac, rfl, c1, c2⟩ := rp_ct hc
  obtain ⟨pe, rfl, e1⟩ := rp_e he
  obtain ⟨p1, row, p2, cs, r1, r2, r3, r4, r5, r6⟩ := rp_cases ok okc.1 ht m3
  wp_walk using u_c
  refine ⟨m, c, t, v, _, _, _, rfl, ok, okc, ht, hm, hc, he, fun H1 s1 => ?_⟩
  cases hp : pick m c t v with
  | none =>
    wp_walk using pickV
    refine new_tup (ks := []) rfl (Nat.zero_le _) fun x2 H2 s2 r2 => ?_
    wp_walk using u_c
    refine new_tup (ks := [eCt c, eA []]) (rps_2 (hc.up (s1.trans s2)) r2) (by simp) fun x3 H3 s3 r3 => ?_
    rw [pick_none hp] at q
    exact q x3 H3 ((s1.trans s2).trans s3) r3
  | some i =>
    obtain ⟨kk, hkk, erd⟩ := pick_some hp
    rw [erd] at q
    obtain ⟨xk, hx1, hx2⟩ := r5.get (i := i) (k := eK kk) (by rw [List.getElem?_map, hkk]; rfl)
    obtain ⟨pk, u, b1, b2, rfl, k1, k2, k3, k4⟩ := rp_k hx2
    obtain ⟨b2', sv, e5, k5, k6⟩ := rp_tup k4
    cases e5
    have okk := r6.2 kk (List.mem_of_getElem? hkk)
    wp_walk using pickV, s1 _ _ m1, s1 _ _ m2, s1 _ _ r2, s1 _ _ r4, atI_z, r1, r3, hx1, s1 _ _ c1, s1 _ _ e1, s1 _ _ k1, u_lcT
    refine ⟨⟨_, SqT.of (s1 _ _ k3)⟩, lcT_of (R := FlatR vO) (keep := kk.moves.map fun s => some (at1 s v c.2)) (s1 _ _ k3) flat_tub (by rw [List.length_map, List.length_map]) (by rw [List.length_map, okk.len]; have := ok.r2; omega) (fun i x hxi H' C N hS hC hN => ?_) fun D' acc' H4 s4 hD' hacc' hA' => ?_⟩
    · rw [List.getElem?_map] at hxi
      obtain ⟨ss, hss, rfl⟩ := Option.map_eq_some_iff.mp hxi
      wp_walk using hS _ _ (s1 _ _ c1), hS _ _ (s1 _ _ e1)
      refine ⟨_, _, c.2, ac, rfl, hS _ _ (s1 _ _ c2), by rw [okc.2]; exact okk.moves ss (List.mem_of_getElem? hss), ?_⟩
      exact hC _ _ (at1 ss v c.2) (by rw [List.getElem?_map, hss]; rfl) (Same.refl _) rfl
    · rw [fm_some] at hA'
      have ea := hA'.flat
      subst ea
      wp_walk using hacc'
      refine new_tup1 (ks := (kk.moves.map fun s => at1 s v c.2).map eO) (rps_eO.mpr rfl) fun xb H5 s5 r5' => ?_
      have S5 := (s1.trans s4).trans s5
      wp_walk using S5 _ _ k1
      refine new_tup (ks := [.num kk.nxt, eH (kk.moves.map fun s => at1 s v c.2)]) (rps_2 rfl r5') (by simp) fun xd H6 s6 r6' => ?_
      have S6 := S5.trans s6
      wp_walk using u_lcT, S6 _ _ k1
      have hsl : sv.length = kk.says.length := by rw [k6.length, List.length_map]
      refine ⟨⟨_, SqT.of (S6 _ _ k5)⟩, lcT_of (R := Rp) (keep := kk.says.map fun p => some (eA1 (p.1, at1 p.2 v c.2))) (S6 _ _ k5) rp_tub (by rw [List.length_map, hsl]) (by have := okk.slen; omega) (fun i x hxi H' C N hS hC hN => ?_) fun D acc H7 s7 hD hacc hA => ?_⟩
      · obtain ⟨kx, hk1, hk2⟩ := k6.get2 hxi
        rw [List.getElem?_map] at hk1
        obtain ⟨pp, hpp, rfl⟩ := Option.map_eq_some_iff.mp hk1
        obtain ⟨px, rfl, hpx⟩ := rp_p (hk2.up (S6.trans hS))
        wp_walk using hpx, hS _ _ (S6 _ _ c1), hS _ _ (S6 _ _ e1)
        refine ⟨_, _, c.2, ac, rfl, hS _ _ (S6 _ _ c2), by rw [okc.2]; exact okk.says pp (List.mem_of_getElem? hpp), ?_⟩
        wp_walk using u_c
        refine new_tup (ks := [.num pp.1, eO (at1 pp.2 v c.2)]) (rps_2 rfl rp_flat) (by simp) fun x3 H3 s3 r3 => ?_
        exact hC x3 H3 _ (by rw [List.getElem?_map, hpp]; rfl) s3 r3
      · rw [fm_some] at hA
        wp_walk using hacc
        refine new_tup1 hA.rps fun xa H8 s8 r8 => ?_
        wp_walk using u_c
        refine new_tup (ks := [eCt (goS kk v c.2), eA (sayS kk v c.2)]) (rps_2 (r6'.up (s7.trans s8)) ?_) (by simp) fun xf H9 s9 r9 => ?_
        · unfold eA sayS
          rw [List.map_map]
          exact r8
        · exact q xf H9 (((S6.trans s7).trans s8).trans s9) r9

end
section
variable {P : Program} {w : World} {K : PySem.W.Frag} {mg : PySem.Str → Option Value} {base : Heap}

abbrev N_l_shown : List PySem.Str := ["_law_ranks_here", "_law_held", "_law_rank"]
theorem sc_l_shown : FnScope N_l_shown ["_law_ranks_here"] (defScope s_l_shown) := ⟨rfl, rfl, rfl, by decide +kernel, rfl, by decide +kernel, by decide +kernel⟩
theorem c_l_shown (D : Df K mg "_law_shown" s_l_shown) (T : Tx K mg) : Cal P w K mg base "_law_shown" 1 ["_law_ranks_here"] spShown := by
  refine D.cal sc_l_shown (by rintro vs H Q E ⟨_, _, rfl, _⟩; rfl) (fun _ _ _ _ _ _ us hl => match us, hl with | [_], _ => rfl) fun f cdv A outer s H vs Q E hr h => ?_
  have hu : (A.deeper (envOfC "_law_shown" (defScope s_l_shown) s.heap.objs.size f cdv)).units + 64 < cLine := hr.units
  obtain ⟨rs, a, rfl, ha, hl, q⟩ := h
  refine ⟨_, (pss_cons (ps_set (i := 1) sc_l_shown.nd rfl (Or.inl rfl) (pe_lst pa_nil))
    (pss_cons (ps_for PassesOwn.never rfl (pi_tup (pv 0)) (pg_name (i := 2) sc_l_shown.nd rfl (Or.inl rfl)) (pss_one (ps_if (pt_cmp (pc_isN (pv 2)) rfl) (pss_one (ps_expr (pe_lm F.slot_list_append F.type_list_append mt_appL (pv 1) (pa_cons pe_non pa_nil)))) (pss_one (ps_expr (pe_lm F.slot_list_append F.type_list_append mt_appL (pv 1) (pa_cons (pe_op op_add (pe_op op_mul pe_int (pv 2)) pe_int) pa_nil)))))))
    (pss_one (ps_ret (pe_callTy cr_tupL (by rfl) T.ntuple (by decide +kernel) (pa_cons (pv 1) pa_nil)))))), ?_⟩
  wp_walk using u_forT
  refine new_lst (Nat.zero_le _) fun L H3 hL s3 h3 => ?_
  wp_walk using u_forT
  obtain ⟨Pv, hPv⟩ : ∃ Pv : Nat → L2.St → Hp → Prop, Pv = fun i σ H' => ∃ (n3 : Option V), σ = [some (.ref a), some (.ref L), n3] ∧ Same H H' ∧ H' L = some (.lst (((shown rs).take i).map vO)) := ⟨_, rfl⟩
  refine ⟨⟨_, SqT.of (s3 _ _ ha)⟩, forT_of (xs := rs.map vO) Pv ?_ ?_ ?_ ?_⟩
  · rw [hPv]
    exact ⟨_, rfl, s3, h3⟩
  · intro i σ H' _ hp'
    rw [hPv] at hp'
    obtain ⟨_, _, hS, _⟩ := hp'
    exact hS _ _ ha
  · intro i x σ H' hx hp'
    rw [hPv] at hp'
    obtain ⟨n3, rfl, hS, hacc'⟩ := hp'
    rw [List.getElem?_map] at hx
    obtain ⟨o, ho, rfl⟩ := Option.map_eq_some_iff.mp hx
    have hi := (List.getElem?_eq_some_iff.mp ho).1
    have er : (shown rs)[i]? = some (o.map fun r => 2 * r + 1) := by
      unfold shown
      rw [List.getElem?_map, ho]
      rfl
    have hlen : (((shown rs).take i).map vO).length < sizeLine := by
      rw [List.length_map, List.length_take, sizeLine_eq]
      omega
    have et : ((shown rs).take (i + 1)).map vO = ((shown rs).take i).map vO ++ [vO (o.map fun r => 2 * r + 1)] := by
      rw [List.take_add_one, er, List.map_append]
      rfl
    cases o with
    | none =>
      wp_walk using vO, hacc'
      refine ⟨hlen, ?_⟩
      rw [hPv]
      exact ⟨_, rfl, same_lst hS hL, by rw [upd_same, et]; rfl⟩
    | some n =>
      wp_walk using vO, hacc'
      refine ⟨.inl ⟨by decide, by decide⟩, hlen, ?_⟩
      rw [hPv]
      exact ⟨_, rfl, same_lst hS hL, by rw [upd_same, et]; rfl⟩
  · intro σ H' hp'
    rw [hPv] at hp'
    obtain ⟨n3, rfl, hS, hacc'⟩ := hp'
    wp_walk using hacc'
    refine new_tup1V fun p5 H5 s5 h5 => q p5 H5 (hS.trans s5) ?_
    rw [h5, List.length_map, ← shown_length rs, List.take_length]

theorem val_of {ns : List Int} {r : Int} (h : 0 ≤ r ∧ r.toNat < ns.length) : atI (ns.map V.int) r = some (.int (ns.getD r.toNat 0)) := by
  obtain ⟨n, rfl⟩ : ∃ n : Nat, r = n := ⟨r.toNat, by omega⟩
  have hn : n < ns.length := by omega
  rw [atI_z, List.getElem?_map, List.getElem?_eq_getElem hn, Int.toNat_natCast, List.getD_eq_getElem?_getD, List.getElem?_eq_getElem hn]
  rfl
abbrev N_with_values : List PySem.Str := ["kind", "values", "rank"]
theorem sc_with_values : FnScope N_with_values ["kind", "values"] (defScope s_with_values) := ⟨rfl, rfl, rfl, by decide +kernel, rfl, by decide +kernel, by decide +kernel⟩
theorem c_with_values (D : Df K mg "with_values" s_with_values) (T : Tx K mg) : Cal P w K mg base "with_values" 1 ["kind", "values"] spWith := by
  refine D.cal sc_with_values (by rintro vs H Q E ⟨_, _, _, _, rfl, _⟩; rfl) (fun _ _ _ _ _ _ us hl => match us, hl with | [_, _], _ => rfl) fun f cdv A outer s H vs Q E hr h => ?_
  have hu : (A.deeper (envOfC "with_values" (defScope s_with_values) s.heap.objs.size f cdv)).units + 64 < cLine := hr.units
  obtain ⟨k, ns, xk, l, rfl, hk, hl, hlen, hr0, q⟩ := h
  refine ⟨_, (pss_one (ps_ret (pe_tup (pa_cons (pe_ix ixT (pv 0) pe_int (fun _ _ => rfl)) (pa_cons (pe_callTy cr_tupL (by rfl) T.ntuple (by decide +kernel) (pa_cons (pe_lc (own := [("rank", 2)]) rfl sc_with_values.nd (pi_tup (pe_ix ixT (pv 0) pe_int (fun _ _ => rfl))) (blkOk_by (own := [("rank", 2)]) (N := N_with_values) (sc := defScope s_with_values) (by decide +kernel)) (fun _ _ _ _ _ => (pg_name (i := 2) sc_with_values.nd rfl (Or.inl rfl))) (fun _ _ _ _ _ => pts_nil) (fun _ _ _ _ _ => (pe_ifExp (pt_cmp (pc_isN (pv 2)) rfl) pe_non (pe_ix ixL (pv 1) (pv 2) (fun _ _ => rfl))))) pa_nil)) pa_nil))))), ?_⟩
  obtain ⟨pk, a, rfl, k1, k2⟩ := rp_ct hk
  wp_walk using u_lcT, k1
  refine ⟨⟨_, SqT.of k2⟩, lcT_of (R := FlatR vO) (keep := k.2.map fun o => some (o.map fun r => ns.getD r.toNat 0)) k2 flat_tub (by rw [List.length_map, List.length_map]) (by rw [List.length_map]; omega) (fun i x hxi H' C N hS hC hN => ?_) fun D' acc' H4 s4 hD' hacc' hA' => ?_⟩
  · rw [List.getElem?_map] at hxi
    obtain ⟨o, ho, rfl⟩ := Option.map_eq_some_iff.mp hxi
    cases o with
    | none =>
      wp_walk using vO
      exact hC _ _ none (by rw [List.getElem?_map, ho]; rfl) (Same.refl _) rfl
    | some n =>
      wp_walk using vO, hS _ _ hl, val_of (hr0 n (List.mem_of_getElem? ho))
      exact hC _ _ (some (ns.getD n.toNat 0)) (by rw [List.getElem?_map, ho]; rfl) (Same.refl _) rfl
  · rw [fm_some] at hA'
    have ea := hA'.flat
    subst ea
    wp_walk using hacc'
    refine new_tup1V fun p5 H5 s5 h5 => ?_
    wp_walk using u_c
    refine new_tup (ks := [.num k.1, eH (withV k ns).2]) (rps_2 rfl (rp_eH.mpr ⟨p5, rfl, h5⟩)) (by simp) fun y H6 s6 r6 => q y H6 ((s4.trans s5).trans s6) r6

abbrev N_l_spaced : List PySem.Str := ["_law_kind", "_law_values", "_law_held", "_law_rank"]
theorem sc_l_spaced : FnScope N_l_spaced ["_law_kind", "_law_values"] (defScope s_l_spaced) := ⟨rfl, rfl, rfl, by decide +kernel, rfl, by decide +kernel, by decide +kernel⟩
theorem c_l_spaced (D : Df K mg "_law_spaced" s_l_spaced) (T : Tx K mg) : Cal P w K mg base "_law_spaced" 1 ["_law_kind", "_law_values"] spWith := by
  refine D.cal sc_l_spaced (by rintro vs H Q E ⟨_, _, _, _, rfl, _⟩; rfl) (fun _ _ _ _ _ _ us hl => match us, hl with | [_, _], _ => rfl) fun f cdv A outer s H vs Q E hr h => ?_
  have hu : (A.deeper (envOfC "_law_spaced" (defScope s_l_spaced) s.heap.objs.size f cdv)).units + 64 < cLine := hr.units
  obtain ⟨k, ns, xk, l, rfl, hk, hl, hlen, hr0, q⟩ := h
  refine ⟨_, (pss_cons (ps_set (i := 2) sc_l_spaced.nd rfl (Or.inl rfl) (pe_lst pa_nil))
    (pss_cons (ps_for PassesOwn.never rfl (pi_tup (pe_ix ixT (pv 0) pe_int (fun _ _ => rfl))) (pg_name (i := 3) sc_l_spaced.nd rfl (Or.inl rfl)) (pss_one (ps_if (pt_cmp (pc_isN (pv 3)) rfl) (pss_one (ps_expr (pe_lm F.slot_list_append F.type_list_append mt_appL (pv 2) (pa_cons pe_non pa_nil)))) (pss_one (ps_expr (pe_lm F.slot_list_append F.type_list_append mt_appL (pv 2) (pa_cons (pe_ix ixL (pv 1) (pv 3) (fun _ _ => rfl)) pa_nil)))))))
    (pss_one (ps_ret (pe_tup (pa_cons (pe_ix ixT (pv 0) pe_int (fun _ _ => rfl)) (pa_cons (pe_callTy cr_tupL (by rfl) T.ntuple (by decide +kernel) (pa_cons (pv 2) pa_nil)) pa_nil))))))), ?_⟩
  obtain ⟨pk, a, rfl, k1, k2⟩ := rp_ct hk
  wp_walk using u_forT
  refine new_lst (Nat.zero_le _) fun L H3 hL s3 h3 => ?_
  wp_walk using u_forT, s3 _ _ k1
  have ew : ∀ i, (withV k ns).2[i]? = (k.2[i]?).map (Option.map fun r : Int => ns.getD r.toNat 0) := fun i => by
    unfold withV
    rw [List.getElem?_map]
  have lw : (withV k ns).2.length = k.2.length := by
    unfold withV
    rw [List.length_map]
  obtain ⟨Pv, hPv⟩ : ∃ Pv : Nat → L2.St → Hp → Prop, Pv = fun i σ H' => ∃ (n3 : Option V), σ = [some (.ref pk), some (.ref l), some (.ref L), n3] ∧ Same H H' ∧ H' L = some (.lst (((withV k ns).2.take i).map vO)) := ⟨_, rfl⟩
  refine ⟨⟨_, SqT.of (s3 _ _ k2)⟩, forT_of (xs := k.2.map vO) Pv ?_ ?_ ?_ ?_⟩
  · rw [hPv]
    exact ⟨_, rfl, s3, h3⟩
  · intro i σ H' _ hp'
    rw [hPv] at hp'
    obtain ⟨_, _, hS, _⟩ := hp'
    exact hS _ _ k2
  · intro i x σ H' hx hp'
    rw [hPv] at hp'
    obtain ⟨n3, rfl, hS, hacc'⟩ := hp'
    rw [List.getElem?_map] at hx
    obtain ⟨o, ho, rfl⟩ := Option.map_eq_some_iff.mp hx
    have hi := (List.getElem?_eq_some_iff.mp ho).1
    have hlen2 : (((withV k ns).2.take i).map vO).length < sizeLine := by
      rw [List.length_map, List.length_take, sizeLine_eq]
      omega
    have et : ((withV k ns).2.take (i + 1)).map vO = ((withV k ns).2.take i).map vO ++ [vO (o.map fun r => ns.getD r.toNat 0)] := by
      rw [List.take_add_one, ew, ho, List.map_append]
      rfl
    cases o with
    | none =>
      wp_walk using vO, hacc'
      refine ⟨hlen2, ?_⟩
      rw [hPv]
      exact ⟨_, rfl, same_lst hS hL, by rw [upd_same, et]; rfl⟩
    | some n =>
      wp_walk using vO, hacc', hS _ _ hl, val_of (hr0 n (List.mem_of_getElem? ho))
      refine ⟨hlen2, ?_⟩
      rw [hPv]
      exact ⟨_, rfl, same_lst hS hL, by rw [upd_same, et]; rfl⟩
  · intro σ H' hp'
    rw [hPv] at hp'
    obtain ⟨n3, rfl, hS, hacc'⟩ := hp'
    wp_walk using hacc', hS _ _ k1
    refine new_tup1V fun p5 H5 s5 h5 => ?_
    wp_walk using u_c
    rw [List.length_map, ← lw, List.take_length] at h5
    refine new_tup (ks := [.num k.1, eH (withV k ns).2]) (rps_2 rfl (rp_eH.mpr ⟨p5, rfl, h5⟩)) (by simp) fun y H6 s6 r6 => q y H6 ((hS.trans s5).trans s6) r6

end
/-! ### promises: what is drawn -/
def spTake : Sp := fun vs H Q _ => ∃ (d : Addr) (n : Int), vs = [.ref d, .int n] ∧ Dr d H ∧ 0 < n ∧ ∀ r H', 0 ≤ r → r < n → Fr d H H' → Q (.int r) H'
theorem take_of {d : Addr} {n : Int} {H : Hp} {Q : VK} {E : XK} (hd : Dr d H) (hn : 0 < n) (q : ∀ r H', 0 ≤ r → r < n → Fr d H H' → Q (.int r) H') : spTake [.ref d, .int n] H Q E := ⟨d, n, rfl, hd, hn, q⟩
def spCell (K : PySem.W.Frag) : Sp := fun vs H Q _ => ∃ (a d : Addr) (ns : List Int), vs = [.ref a, .ref d] ∧ Scr K H a (ns.map V.int) ∧ ns.length ≤ 63 ∧ Dr d H ∧ ∀ r H', Fr d H H' → Q (.int r) H'
def spCnd (dp : Int) (kind : Cn → Prop) : Sp := fun vs H Q _ => ∃ (d : Addr) (r : Nat), vs = [.ref d, .int r, .int dp] ∧ r ≤ 2 ∧ Dr d H ∧ ∀ c y H', okC r c → kind c → Fr d H H' → Rp H' (eC c) y → Q y H'
def spDcase : Sp := fun vs H Q _ => ∃ (d : Addr) (r n : Nat) (c : Cn) (x : V), vs = [.ref d, .int r, .int n, x] ∧ r ≤ 2 ∧ 1 ≤ n ∧ okC r c ∧ Rp H (eC c) x ∧ Dr d H ∧ ∀ k y H', okK r n k → Fr d H H' → Rp H' (eK k) y → Q y H'
/-- a right machine, few cases, few tags -/
structure okB (b tg : Nat) (m : Mc) : Prop where
  ok : okM m
  few : ∀ row ∈ m.steps, ∀ cs ∈ row, cs.length ≤ b
  tg : m.tags ≤ tg
theorem okB.of {m : Mc} {b tg : Nat} (t1 : 1 ≤ m.tags) (t2 : m.tags ≤ tg) (htg : tg ≤ 6) (r2 : m.regs ≤ 2) (s1 : 1 ≤ m.steps.length) (s3 : m.steps.length ≤ 3) (hb : b ≤ 100) (rows : ∀ row ∈ m.steps, row.length = m.tags ∧ ∀ cs ∈ row, okR m.regs m.steps.length b cs) : okB b tg m :=
  ⟨⟨t1, Nat.le_trans t2 htg, r2, s1, s3, fun row h => ⟨(rows row h).1, fun cs hc => ⟨Nat.le_trans ((rows row h).2 cs hc).1 hb, ((rows row h).2 cs hc).2⟩⟩⟩, fun row h cs hc => ((rows row h).2 cs hc).1, t2⟩
theorem okB.mono {m : Mc} {a b tg : Nat} (h : okB a tg m) (hab : a ≤ b) : okB b tg m := ⟨h.ok, fun r hr c hc => Nat.le_trans (h.few r hr c hc) hab, h.tg⟩
def spDm : Sp := fun vs H Q _ => ∃ (d : Addr) (t r n : Nat), vs = [.ref d, .int t, .int r, .int n] ∧ 1 ≤ t ∧ t ≤ 6 ∧ r ≤ 2 ∧ 1 ≤ n ∧ n ≤ 3 ∧ Dr d H ∧ ∀ m y H', okM m → Fr d H H' → Rp H' (eM m) y → Q y H'
def spSm : Sp := fun vs H Q _ => ∃ (d : Addr), vs = [.ref d] ∧ Dr d H ∧ ∀ m y H', okB 5 1 m → Fr d H H' → Rp H' (eM m) y → Q y H'
def putC (m : Mc) (s t : Nat) (cs : List Cs) : Mc :=
  let row := (m.steps[s]?).getD []
  ⟨m.tags, m.regs, m.steps.take s ++ [row.take t ++ [cs] ++ row.drop (t + 1)] ++ m.steps.drop (s + 1)⟩
def spPut : Sp := fun vs H Q _ => ∃ (m : Mc) (s t : Nat) (cs : List Cs) (x : V) (l : Addr) (xs : List V), vs = [x, .int s, .int t, .ref l] ∧ okM m ∧ s < m.steps.length ∧ t < m.tags ∧ Rp H (eM m) x ∧ H l = some (.lst xs) ∧ Rps H (cs.map eK) xs ∧ ∀ y H', Same H H' → Rp H' (eM (putC m s t cs)) y → Q y H'
def spChg : Sp := fun vs H Q _ => ∃ (b : Nat) (d : Addr) (m : Mc) (x : V), vs = [.ref d, x] ∧ b ≤ 50 ∧ okB b 1 m ∧ Rp H (eM m) x ∧ Dr d H ∧ ∀ m' y H', okB (b + 1) 1 m' → Fr d H H' → Rp H' (eM m') y → Q y H'
def spTag : Sp := fun vs H Q _ => ∃ (d : Addr) (m : Mc) (x : V), vs = [.ref d, x] ∧ okB 50 1 m ∧ Rp H (eM m) x ∧ Dr d H ∧ ∀ m' y H', okM m' → Fr d H H' → Rp H' (eM m') y → Q y H'
def spMach : Sp := fun vs H Q _ => ∃ (d : Addr), vs = [.ref d] ∧ Dr d H ∧ ∀ m y H', okM m → Fr d H H' → Rp H' (eM m) y → Q y H'
/-- a type of the machine: ranks of some held values -/
def okT (m : Mc) (k : Ct) : Prop := okCt m k ∧ ∃ held, k.2 = ranks held
def spType : Sp := fun vs H Q _ => ∃ (d : Addr) (m : Mc) (x : V), vs = [.ref d, x] ∧ okM m ∧ Rp H (eM m) x ∧ Dr d H ∧ ∀ k y H', okT m k → Fr d H H' → Rp H' (eCt k) y → Q y H'
def spLog (K : PySem.W.Frag) : Sp := fun vs H Q _ => ∃ (a d : Addr) (ns : List Int) (t : Nat), vs = [.ref a, .ref d, .int t, .int 10] ∧ Scr K H a (ns.map V.int) ∧ ns.length ≤ 63 ∧ 1 ≤ t ∧ Dr d H ∧
  ∀ log y H', (∀ p ∈ log, p.1 < t) → log.length ≤ 10 → Fr d H H' → Rp H' (eLog log) y → Q y H'
def spDraws (K : PySem.W.Frag) : Sp := fun vs H Q _ => ∃ (a : Addr) (ns : List Int), vs = [.ref a, .int 400] ∧ Scr K H a (ns.map V.int) ∧ ns.length ≤ 63 ∧ ∀ d H', H d = none → Same H H' → Dr d H' → Q (.ref d) H'
theorem rgV_0 (n : Nat) : rgV 0 n = (List.range n).map fun i : Nat => V.int i := by
  unfold rgV
  rw [Int.sub_zero, Int.toNat_natCast]
  exact List.map_congr_left fun i _ => by rw [Int.zero_add]
theorem rgOk_0 {n : Nat} (h : n ≤ 1000) : RgOk 0 n := RgOk.of_le (Int.le_refl 0) (by omega) (by omega) (by omega)
theorem rp_tup2 {H : Hp} {a : Addr} {k1 k2 : NestedKey} {u v : V} (h : H a = some (.tup [u, v])) (h1 : Rp H k1 u) (h2 : Rp H k2 v) : Rp H (.tup [k1, k2]) (.ref a) := ⟨a, _, rfl, h, rps_2 h1 h2⟩
def TrR {α : Type} (f : α → NestedKey) : Hp → α → V → Prop := fun H k v => Rp H (f k) v
theorem tr_tub {α : Type} {f : α → NestedKey} : ∀ (H H' : Hp) (k : α) (v : V), Tub H H' → TrR f H k v → TrR f H' k v := fun _ _ k v t h => Rp.ts t (f k) v h
theorem AR.tr {α : Type} {f : α → NestedKey} {H : Hp} : ∀ {ks : List α} {vs : List V}, AR (TrR f) H ks vs → Rps H (ks.map f) vs
  | [], _, h => h
  | _ :: _, _, ⟨v, r, e1, e2, e3⟩ => ⟨v, r, e1, e2, e3.tr⟩
theorem AR.of_tr {α : Type} {f : α → NestedKey} {H : Hp} : ∀ {ks : List α} {vs : List V}, Rps H (ks.map f) vs → AR (TrR f) H ks vs
  | [], _, h => h
  | _ :: _, _, ⟨v, r, e1, e2, e3⟩ => ⟨v, r, e1, e2, AR.of_tr e3⟩
theorem Fr.back {d p : Addr} {H H' : Hp} (f : Fr d H H') (h : H' p = none) : H p = none := by
  cases e : H p with
  | none => rfl
  | some o =>
    have := f.sb p o e (f.d1.fresh h)
    rw [h] at this
    cases this
theorem Fr.lst {d p : Addr} {H H' : Hp} {xs : List V} (f : Fr d H H') (h : H' p = none) : p ≠ d := f.d1.fresh h
theorem ne_lst {p q : Addr} {H : Hp} {o : HO} (h : H p = none) (e : H q = some o) : q ≠ p := fun z => by
  rw [z, h] at e
  cases e
theorem len_srcs {r : Nat} : (0 : Int) < ((rgV 0 (r : Int) ++ [V.int (-1), V.int (-1), V.int (-2)]).length : Nat) := by
  rw [List.length_append]
  simp only [List.length_cons, List.length_nil]
  omega
theorem at_srcs {r : Nat} {i : Int} {Q : V → Prop} (h0 : 0 ≤ i) (h1 : i < ((rgV 0 (r : Int) ++ [V.int (-1), V.int (-1), V.int (-2)]).length : Nat)) (q : ∀ a, okS r a → Q (.int a)) : ∃ v, atI (rgV 0 (r : Int) ++ [V.int (-1), V.int (-1), V.int (-2)]) i = some v ∧ Q v := by
  refine any_at (H := fun _ => none) h0 h1 fun x hx => ?_
  rcases List.mem_append.mp hx with hx | hx
  · rw [rgV_0] at hx
    obtain ⟨n, hn, rfl⟩ := List.mem_map.mp hx
    have := List.mem_range.mp hn
    exact q _ ⟨by omega, by omega⟩
  · simp only [List.mem_cons, List.not_mem_nil, or_false] at hx
    rcases hx with rfl | rfl | rfl <;> exact q _ ⟨by omega, by omega⟩
/-- at L a list of trees -/
def LT (H : Hp) (L : Addr) (ks : List NestedKey) : Prop := ∃ xs, H L = some (.lst xs) ∧ Rps H ks xs
theorem LT.fr {d L : Addr} {H H' : Hp} {ks : List NestedKey} (h : LT H L ks) (f : Fr d H H') (n : L ≠ d) : LT H' L ks := ⟨h.choose, f.sb _ _ h.choose_spec.1 n, f.rps h.choose_spec.2⟩
theorem LT.up {L : Addr} {H H' : Hp} {ks : List NestedKey} (h : LT H L ks) (s : Same H H') : LT H' L ks := ⟨h.choose, s _ _ h.choose_spec.1, h.choose_spec.2.up s⟩
theorem LT.other {L M : Addr} {H : Hp} {ks : List NestedKey} {xs ys : List V} (h : LT H L ks) (hM : H M = some (.lst xs)) (n : L ≠ M) : LT (upd H M (.lst ys)) L ks :=
  ⟨h.choose, by rw [upd_ne n]; exact h.choose_spec.1, Rps.ts (tub_lst hM) _ _ h.choose_spec.2⟩
theorem LT.push {L : Addr} {H : Hp} {ks : List NestedKey} {xs : List V} {k : NestedKey} {y : V} (h1 : H L = some (.lst xs)) (h2 : Rps H ks xs) (r : Rp H k y) : LT (upd H L (.lst (xs ++ [y]))) L (ks ++ [k]) :=
  ⟨_, upd_same, (Rps.ts (tub_lst h1) _ _ h2).app (Rps.one (Rp.ts (tub_lst h1) _ _ r))⟩
theorem LT.ne {L M : Addr} {H : Hp} {ks : List NestedKey} (h : LT H L ks) (q : H M = none) : L ≠ M := ne_lst q h.choose_spec.1
theorem cut_take {xs : List V} {n : Nat} (h : n ≤ xs.length) : cutV xs none (some (n : Int)) = xs.take n := by
  unfold cutV
  rw [HT.sIx_none, HT.sIx_nat, List.drop_zero, Nat.sub_zero, Nat.min_eq_left h]
theorem cut_drop {xs : List V} {n : Nat} (h : n ≤ xs.length) : cutV xs (some (n : Int)) none = xs.drop n := by
  unfold cutV
  rw [HT.sIx_none, HT.sIx_nat, Nat.min_eq_left h]
  exact List.take_of_length_le (by rw [List.length_drop]; omega)
theorem putC_ok {m : Mc} {b b' s t : Nat} {cs : List Cs} (h : okB b 1 m) (hs : s < m.steps.length) (ht : t < m.tags) (hb : b ≤ b') (hb2 : b' ≤ 100) (hc : okR m.regs m.steps.length b' cs) : okB b' 1 (putC m s t cs) := by
  have hl : (putC m s t cs).steps.length = m.steps.length := by
    unfold putC
    simp only [List.length_append, List.length_take, List.length_drop, List.length_cons, List.length_nil]
    omega
  refine okB.of h.ok.t1 h.tg (by omega) h.ok.r2 (by rw [hl]; exact h.ok.s1) (by rw [hl]; exact h.ok.s3) hb2 fun row hr => ?_
  rw [hl]
  have old : ∀ row ∈ m.steps, row.length = m.tags ∧ ∀ cs ∈ row, okR m.regs m.steps.length b' cs := fun row hr => ⟨(h.ok.rows row hr).1, fun c hc => ⟨Nat.le_trans (h.few row hr c hc) hb, ((h.ok.rows row hr).2 c hc).2⟩⟩
  unfold putC at hr
  simp only [List.append_assoc] at hr
  rcases List.mem_append.mp hr with hr | hr
  · exact old row (List.mem_of_mem_take hr)
  · rcases List.mem_append.mp hr with hr | hr
    · rw [List.mem_singleton.mp hr, List.getElem?_eq_getElem hs, Option.getD_some]
      obtain ⟨o1, o2⟩ := old _ (List.getElem_mem hs)
      refine ⟨?_, fun c hc2 => ?_⟩
      · simp only [List.length_append, List.length_take, List.length_drop, List.length_cons, List.length_nil]
        show _ = m.tags
        omega
      · rcases List.mem_append.mp hc2 with hc2 | hc2
        · exact o2 c (List.mem_of_mem_take hc2)
        · rcases List.mem_append.mp hc2 with hc2 | hc2
          · rw [List.mem_singleton.mp hc2]
            exact hc
          · exact o2 c (List.mem_of_mem_drop hc2)
    · exact old row (List.mem_of_mem_drop hr)
/-! checked by computing -/
def bP (r : Nat) (a : Int) : Bool := decide (-1 ≤ a) && decide (a < r)
def bS (r : Nat) (a : Int) : Bool := decide (-2 ≤ a) && decide (a < r)
def bL (r : Nat) : Lf → Bool
  | .tt => true
  | .ff => true
  | .ls a b => bP r a && bP r b
  | .sm a b => bP r a && bP r b
  | .em a => bP r a
def bC (r : Nat) : Cn → Bool
  | .lf l => bL r l
  | .nt l => bL r l
  | .al ls => decide (ls.length ≤ 2) && ls.all (bL r)
  | .an ls => decide (ls.length ≤ 2) && ls.all (bL r)
def bK (r n : Nat) (c : Cs) : Bool := bC r c.cond && decide (c.moves.length = r) && c.moves.all (bS r) && decide (c.says.length ≤ 8) && c.says.all (fun p => bS r p.2) && decide (c.nxt < n)
def bM (b : Nat) (m : Mc) : Bool := decide (m.tags = 1) && decide (m.regs ≤ 2) && decide (1 ≤ m.steps.length) && decide (m.steps.length ≤ 3) && m.steps.all fun row => decide (row.length = m.tags) && row.all fun cs => decide (cs.length ≤ b) && cs.all (bK m.regs m.steps.length)
theorem bP_ok {r : Nat} {a : Int} (h : bP r a = true) : okP r a := by
  simpa [bP, okP] using h
theorem bS_ok {r : Nat} {a : Int} (h : bS r a = true) : okS r a := by
  simpa [bS, okS] using h
theorem bL_ok {r : Nat} {l : Lf} (h : bL r l = true) : okL r l := by
  cases l with
  | tt => trivial
  | ff => trivial
  | ls a b =>
    rw [bL, Bool.and_eq_true] at h
    exact ⟨bP_ok h.1, bP_ok h.2⟩
  | sm a b =>
    rw [bL, Bool.and_eq_true] at h
    exact ⟨bP_ok h.1, bP_ok h.2⟩
  | em a => exact bP_ok h
theorem bC_ok {r : Nat} {c : Cn} (h : bC r c = true) : okC r c := by
  cases c with
  | lf l => exact bL_ok h
  | nt l => exact bL_ok h
  | al ls =>
    rw [bC, Bool.and_eq_true] at h
    exact ⟨of_decide_eq_true h.1, fun l hl => bL_ok (List.all_eq_true.mp h.2 l hl)⟩
  | an ls =>
    rw [bC, Bool.and_eq_true] at h
    exact ⟨of_decide_eq_true h.1, fun l hl => bL_ok (List.all_eq_true.mp h.2 l hl)⟩
theorem bK_ok {r n : Nat} {c : Cs} (h : bK r n c = true) : okK r n c := by
  unfold bK at h
  simp only [Bool.and_eq_true, decide_eq_true_eq, List.all_eq_true] at h
  obtain ⟨⟨⟨⟨⟨h1, h2⟩, h3⟩, h4⟩, h5⟩, h6⟩ := h
  exact ⟨bC_ok h1, h2, fun s hs => bS_ok (h3 s hs), h4, fun p hp => bS_ok (h5 p hp), h6⟩
theorem bM_ok {b : Nat} {m : Mc} (hb : b ≤ 100) (h : bM b m = true) : okB b 1 m := by
  unfold bM at h
  simp only [Bool.and_eq_true, decide_eq_true_eq, List.all_eq_true] at h
  obtain ⟨⟨⟨⟨h1, h2⟩, h3⟩, h4⟩, h5⟩ := h
  exact okB.of (by omega) (by omega) (by omega) h2 h3 h4 hb fun row hr => ⟨(h5 row hr).1, fun cs hc => ⟨((h5 row hr).2 cs hc).1, fun k hk => bK_ok (((h5 row hr).2 cs hc).2 k hk)⟩⟩
def NewR (H : Hp) (k : NestedKey) (Q : VK) : Prop := ∀ y H', Same H H' → Rp H' k y → Q y H'
def NewRs (H : Hp) (ks : List NestedKey) (Q : List V → Hp → Prop) : Prop := ∀ ys H', Same H H' → Rps H' ks ys → Q ys H'
def VsOk (vs : List (Nat × NestedKey)) (σ : L2.St) (H : Hp) : Prop := ∀ p ∈ vs, ∃ v, σ[p.1]? = some (some v) ∧ Rp H p.2 v
theorem u_tr {vs : List (Nat × NestedKey)} {k : NestedKey} {σ : L2.St} {H : Hp} {Q : VK} : tTr vs k σ H Q = (VsOk vs σ H ∧ NewR H k Q) := rfl
theorem u_trs {vs : List (Nat × NestedKey)} {ks : List NestedKey} {σ : L2.St} {H : Hp} {Q : List V → Hp → Prop} : tTrs vs ks σ H Q = (VsOk vs σ H ∧ NewRs H ks Q) := rfl
theorem vs0 {σ : L2.St} {H : Hp} : VsOk [] σ H := fun _ h => nomatch h
theorem vs1 {σ : L2.St} {H : Hp} {i : Nat} {k : NestedKey} {v : V} (h : σ[i]? = some (some v)) (r : Rp H k v) : VsOk [(i, k)] σ H := fun p hp => by
  rw [List.mem_singleton.mp hp]
  exact ⟨v, h, r⟩
theorem vs2 {σ : L2.St} {H : Hp} {i j : Nat} {k l : NestedKey} {v u : V} (h : σ[i]? = some (some v)) (r : Rp H k v) (h2 : σ[j]? = some (some u)) (r2 : Rp H l u) : VsOk [(i, k), (j, l)] σ H := fun p hp => by
  rcases List.mem_cons.mp hp with e | hp
  · rw [e]
    exact ⟨v, h, r⟩
  · rw [List.mem_singleton.mp hp]
    exact ⟨u, h2, r2⟩
theorem u_insL {x : V} {ys : List V} {H : Hp} {Q : VK} : rInsL x ys H Q = ∃ a, x = .ref a ∧ ∃ i y, ys = [.int i, y] ∧ ∃ xs, H a = some (.lst xs) ∧ (xs.length < sizeLine ∧ 0 ≤ i ∧ i < 2 ^ 63) ∧ Q .non (upd H a (.lst (xs.take i.toNat ++ [y] ++ xs.drop i.toNat))) := rfl
theorem Rps.set {H : Hp} {k : NestedKey} {v : V} (h : Rp H k v) : ∀ {ks : List NestedKey} {vs : List V} (n : Nat), Rps H ks vs → Rps H (ks.set n k) (vs.set n v)
  | [], vs, n, e => by
    rw [show vs = [] from e]
    exact rfl
  | k' :: ks, vs, 0, ⟨v', r, e1, e2, e3⟩ => by
    subst e1
    exact ⟨v, r, rfl, h, e3⟩
  | k' :: ks, vs, n + 1, ⟨v', r, e1, e2, e3⟩ => by
    subst e1
    exact ⟨v', r.set n v, rfl, e2, Rps.set h n e3⟩
theorem Rps.erase {H : Hp} : ∀ {ks : List NestedKey} {vs : List V} (n : Nat), Rps H ks vs → Rps H (ks.eraseIdx n) (vs.eraseIdx n)
  | [], vs, n, e => by
    rw [show vs = [] from e]
    exact rfl
  | k' :: ks, vs, 0, ⟨v', r, e1, e2, e3⟩ => by
    subst e1
    exact e3
  | k' :: ks, vs, n + 1, ⟨v', r, e1, e2, e3⟩ => by
    subst e1
    exact ⟨v', r.eraseIdx n, rfl, e2, Rps.erase n e3⟩
theorem u_gsub {to ti : TE} {t : TSet} {v : V} {σ : L2.St} {H : Hp} {Q : L2.St → Hp → Prop} : gSub to ti t v σ H Q = to σ H fun o H1 => ti σ H1 fun i H2 => t o i v H2 fun H3 => Q σ H3 := rfl
theorem erase_map {α β : Type} (f : α → β) : ∀ (l : List α) (n : Nat), (l.map f).eraseIdx n = (l.eraseIdx n).map f
  | [], _ => rfl
  | _ :: _, 0 => rfl
  | a :: l, n + 1 => by
    show f a :: (l.map f).eraseIdx n = f a :: (l.eraseIdx n).map f
    rw [erase_map f l n]
/-- a tag more -/
theorem tag_ok {m : Mc} {steps : List (List (List Cs))} (h : okB 50 1 m) (hl : steps.length = m.steps.length) (hr : ∀ row ∈ steps, row.length = m.tags + 1 ∧ ∀ cs ∈ row, okR m.regs m.steps.length 50 cs) : okM ⟨m.tags + 1, m.regs, steps⟩ := by
  have t1 := h.ok.t1
  have tg := h.tg
  refine ⟨by show 1 ≤ m.tags + 1; omega, by show m.tags + 1 ≤ 6; omega, h.ok.r2, by show 1 ≤ steps.length; rw [hl]; exact h.ok.s1, by show steps.length ≤ 3; rw [hl]; exact h.ok.s3, fun row q => ⟨(hr row q).1, fun cs c => ?_⟩⟩
  show okR m.regs steps.length 100 cs
  rw [hl]
  exact ⟨Nat.le_trans ((hr row q).2 cs c).1 (by omega), ((hr row q).2 cs c).2⟩
section
variable {K : PySem.W.Frag} {σ : L2.St} {H1 : Hp} {Q : VK} {α : Type} {R : Hp → α → V → Prop} {keep : List (Option α)} {g : TG} {tt : TT} {te : TE} {vs : List Nat} {xs : List V} {a : Addr}
/-- over the script -/
theorem lcS_of (ha : Scr K H1 a xs) (hR : ∀ H H' k v, Tub H H' → R H k v → R H' k v) (hk : keep.length = xs.length) (hl : xs.length ≤ 1000000) (turn : ∀ i x, xs[i]? = some x → LcTurn R keep g tt te vs σ H1 i x)
    (fin : ∀ D acc H', Same H1 H' → H1 D = none → H' D = some (.lst acc) → AR R H' (keep.filterMap id) acc → Q (.ref D) H') : LcI (Itl K a) g tt te vs σ H1 Q := by
  intro D hD
  refine ⟨fun i m H => m = xs.length - i ∧ i ≤ xs.length ∧ Same H1 H ∧ ∃ acc, H D = some (.lst acc) ∧ AR R H ((keep.take i).filterMap id) acc, ⟨xs.length, rfl, Nat.zero_le _, same_new hD, [], upd_same, rfl⟩, ?_⟩
  rintro i m H ⟨rfl, hi, hS, acc, hacc, hA⟩
  have q : SqL K H a xs := (ha.up hS).sq
  by_cases hlt : i < xs.length
  · refine .inr ⟨⟨xs, xs[i], q, by simp [hlt]⟩, fun H' => Same H1 H' ∧ ∃ acc, H' D = some (.lst acc) ∧ AR R H' ((keep.take (i + 1)).filterMap id) acc, fun H' p' => ⟨xs.length - (i + 1), by omega, rfl, hlt, p'⟩, fun x H' y => ?_⟩
    obtain ⟨e, y⟩ := y
    subst e
    refine turn i x (y xs q) H' _ _ hS (fun z H4 k hki hS4 hz => ?_) fun H3 hki hS3 => ?_
    · have h4 := hS4 _ _ hacc
      have lacc := hA.length
      have lk : ((keep.take i).filterMap id).length ≤ i := Nat.le_trans (List.length_filterMap_le _ _) (by rw [List.length_take]; omega)
      refine ⟨acc, h4, by rw [sizeLine_eq]; omega, same_lst (hS.trans hS4) hD, acc ++ [z], upd_same, ?_⟩
      rw [fm_take hki]
      exact ((hA.tub hR (Tub.of hS4)).snoc hz).tub hR (tub_lst h4)
    · refine ⟨hS.trans hS3, acc, hS3 _ _ hacc, ?_⟩
      rw [fm_take hki]
      simpa using hA.tub hR (Tub.of hS3)
  · have e : i = xs.length := by omega
    subst e
    refine .inl ⟨⟨xs, q, Nat.le_refl _⟩, fin D acc H hS hD hacc ?_⟩
    rw [← hk, List.take_length] at hA
    exact hA
end
theorem ixN_z {n j : Nat} (h : j < n) : ixN n (j : Int) = some j := by
  unfold ixN
  rw [if_pos (by omega), if_pos (by omega)]
  rfl
theorem int_at {ns : List Int} {j : Nat} (h : j < ns.length) : ∃ i : Int, (ns.map V.int)[j]? = some (.int i) := ⟨ns[j], by rw [List.getElem?_map, List.getElem?_eq_getElem h]; rfl⟩
section
variable {P : Program} {w : World} {K : PySem.W.Frag} {mg : PySem.Str → Option Value} {base : Heap}

abbrev N_l_take : List PySem.Str := ["_law_draws_here", "_law_many_here"]
theorem sc_l_take : FnScope N_l_take ["_law_draws_here", "_law_many_here"] (defScope s_l_take) := ⟨rfl, rfl, rfl, by decide +kernel, rfl, by decide +kernel, by decide +kernel⟩
theorem c_l_take (D : Df K mg "_law_take" s_l_take) (T : Tx K mg) : Cal P w K mg base "_law_take" 1 ["_law_draws_here", "_law_many_here"] spTake := by
  refine D.cal sc_l_take (by rintro vs H Q E ⟨_, _, rfl, _⟩; rfl) (fun _ _ _ _ _ _ us hl => match us, hl with | [_, _], _ => rfl) fun f cdv A outer s H vs Q E hr h => ?_
  have hu : (A.deeper (envOfC "_law_take" (defScope s_l_take) s.heap.objs.size f cdv)).units + 64 < cLine := hr.units
  obtain ⟨d, n, rfl, ⟨ns, hd⟩, hn, q⟩ := h
  refine ⟨_, (pss_cons (ps_if (pt_cmpR op_eq (pe_callB cr_lenL (by rfl) T.nlen (by decide +kernel) (pa_cons (pv 0) pa_nil)) pe_int (nomark _)) (pss_one (ps_ret pe_int)) pss_nil)
    (pss_one (ps_ret (pe_op op_mod (pe_callTy cr_int1 (by rfl) T.nint (by decide +kernel) (pa_cons (pe_lm0 F.slot_list_pop F.type_list_pop mt_popL (pv 0)) pa_nil)) (pv 1))))), ?_⟩
  wp_walk using hd
  refine ite2 (fun h1 => ?_) fun h1 => ?_
  · wp_walk using u_c
    exact q 0 H (Int.le_refl 0) hn (Fr.refl ⟨ns, hd⟩)
  · have hl : 0 < ns.length := by
      rcases ns with _ | ⟨a, ns⟩
      · exact absurd rfl h1
      · exact Nat.succ_pos _
    wp_walk using hd
    have e : (ns.map V.int)[(ns.map V.int).length - 1]? = some (.int (ns[ns.length - 1]'(by omega))) := by
      rw [List.length_map, List.getElem?_map, List.getElem?_eq_getElem (by omega)]
      rfl
    refine ⟨_, e, ?_⟩
    wp_walk using u_c
    refine ⟨hn, q _ _ (Int.emod_nonneg _ (by omega)) (Int.emod_lt_of_pos _ hn) ⟨⟨ns, hd⟩, fun b o e hb => by rw [upd_ne hb]; exact e, ns.dropLast, by rw [upd_same, List.map_dropLast]⟩⟩

abbrev N_l_cell : List PySem.Str := ["_law_script", "_law_draws_here"]
theorem sc_l_cell : FnScope N_l_cell ["_law_script", "_law_draws_here"] (defScope s_l_cell) := ⟨rfl, rfl, rfl, by decide +kernel, rfl, by decide +kernel, by decide +kernel⟩
theorem c_l_cell (D : Df K mg "_law_cell" s_l_cell) (T : Tx K mg) (C_l_take : Cal P w K mg base "_law_take" 1 ["_law_draws_here", "_law_many_here"] spTake) : Cal P w K mg base "_law_cell" 2 ["_law_script", "_law_draws_here"] (spCell K) := by
  refine D.cal sc_l_cell (by rintro vs H Q E ⟨_, _, _, rfl, _⟩; rfl) (fun _ _ _ _ _ _ us hl => match us, hl with | [_, _], _ => rfl) fun f cdv A outer s H vs Q E hr h => ?_
  have hu : (A.deeper (envOfC "_law_cell" (defScope s_l_cell) s.heap.objs.size f cdv)).units + 64 < cLine := hr.units
  obtain ⟨a, d, ns, rfl, hs, hl, hd, q⟩ := h
  refine ⟨_, (pss_cons (ps_if (pt_cmpR op_eq (pe_callB call_len_seq (by rfl) T.nlen (by decide +kernel) (pa_cons (pv 0) pa_nil)) pe_int (nomark _)) (pss_one (ps_ret pe_int)) pss_nil)
    (pss_one (ps_ret (pe_callTy cr_int1 (by rfl) T.nint (by decide +kernel) (pa_cons (pe_ix ix_list (pv 0) (pe_cal C_l_take hr (pa_cons (pv 1) (pa_cons (pe_callB call_len_seq (by rfl) T.nlen (by decide +kernel) (pa_cons (pv 0) pa_nil)) pa_nil))) (fun _ _ => rfl)) pa_nil))))), ?_⟩
  wp_walk using u_c
  refine ⟨_, _, rfl, .inl hs.sq, ?_⟩
  wp_walk using u_c
  refine ite2 (fun h1 => ?_) fun h1 => ?_
  · wp_walk using u_c
    exact q 0 H (Fr.refl hd)
  · wp_walk using u_c
    refine ⟨_, _, rfl, .inl hs.sq, take_of hd ?_ fun r H' r0 r1 f => ?_⟩
    · rcases ns with _ | ⟨b, ns⟩
      · exact absurd rfl h1
      · rw [List.length_map, List.length_cons]
        omega
    · obtain ⟨v, e1, i, rfl⟩ := any_at (H := H') (Q := fun v => ∃ i : Int, v = .int i) (xs := ns.map V.int) r0 r1 fun x hx => by
        obtain ⟨i, _, rfl⟩ := List.mem_map.mp hx
        exact ⟨i, rfl⟩
      refine ⟨_, _, r, _, rfl, rfl, (hs.fr f).sq, e1, ?_⟩
      wp_walk using u_c
      exact q i H' f

theorem atP {r : Nat} {i : Int} {Q : V → Prop} (h0 : 0 ≤ i) (h1 : i < (((rgV 0 r).length + 1 : Nat) : Int)) (q : ∀ a, okP r a → Q (.int a)) : ∃ v, atI (V.int (-1) :: rgV 0 r) i = some v ∧ Q v := by
  refine any_at (H := fun _ => none) h0 h1 fun x hx => ?_
  rcases List.mem_cons.mp hx with e | hx
  · rw [e]
    exact q _ ⟨by omega, by omega⟩
  · rw [rgV_0] at hx
    obtain ⟨n, hn, rfl⟩ := List.mem_map.mp hx
    have := List.mem_range.mp hn
    exact q _ ⟨by omega, by omega⟩
theorem eC_lf {l : Lf} : eC (.lf l) = eL l := rfl
abbrev N_l_condition : List PySem.Str := ["_law_draws_here", "_law_registers", "_law_depth", "_law_kind", "_law_places", "_law_one", "_law_other", "_law_row", "_law_k"]
theorem sc_l_condition : FnScope N_l_condition ["_law_draws_here", "_law_registers", "_law_depth"] (defScope s_l_condition) := ⟨rfl, rfl, rfl, by decide +kernel, rfl, by decide +kernel, by decide +kernel⟩
theorem c_l_condition (D : Df K mg "_law_condition" s_l_condition) (T : Tx K mg) {kind : Cn → Prop} {R : Sp} {j : Nat} {dp : Int} (hk : ∀ l, kind (.lf l)) (hR : 2 ≤ dp → (∀ c, kind c) ∧ dp = 2 ∧ ∀ vs H Q E, spCnd 1 isLf vs H Q E → R vs H Q E) (C_l_take : Cal P w K mg base "_law_take" 1 ["_law_draws_here", "_law_many_here"] spTake) (C_l_condition : Cal P w K mg base "_law_condition" j ["_law_draws_here", "_law_registers", "_law_depth"] R) : Cal P w K mg base "_law_condition" (j + 1 + 1) ["_law_draws_here", "_law_registers", "_law_depth"] (spCnd dp kind) := by
  refine D.cal sc_l_condition (by rintro vs H Q E ⟨_, _, rfl, _⟩; rfl) (fun _ _ _ _ _ _ us hl => match us, hl with | [_, _, _], _ => rfl) fun f cdv A outer s H vs Q E hr h => ?_
  have hu : (A.deeper (envOfC "_law_condition" (defScope s_l_condition) s.heap.objs.size f cdv)).units + 64 < cLine := hr.units
  obtain ⟨d, r, rfl, hr2, hd, q⟩ := h
  refine ⟨_, (pss_cons (ps_set (i := 3) sc_l_condition.nd rfl (Or.inl rfl) (pe_cal C_l_take hr (pa_cons (pv 0) (pa_cons pe_int pa_nil))))
    (pss_cons (ps_set (i := 4) sc_l_condition.nd rfl (Or.inl rfl) (pe_op op_cat (pe_lst (pa_cons (pe_un un_neg pe_int) pa_nil)) (pe_lstRg0 rfl (by rfl) T.nlist (by rfl) T.nrange (pv 1))))
    (pss_cons (ps_set (i := 5) sc_l_condition.nd rfl (Or.inl rfl) (pe_ix ixL (pv 4) (pe_cal C_l_take hr (pa_cons (pv 0) (pa_cons (pe_callB cr_lenL (by rfl) T.nlen (by decide +kernel) (pa_cons (pv 4) pa_nil)) pa_nil))) (fun _ _ => rfl)))
    (pss_cons (ps_set (i := 6) sc_l_condition.nd rfl (Or.inl rfl) (pe_ix ixL (pv 4) (pe_cal C_l_take hr (pa_cons (pv 0) (pa_cons (pe_callB cr_lenL (by rfl) T.nlen (by decide +kernel) (pa_cons (pv 4) pa_nil)) pa_nil))) (fun _ _ => rfl)))
    (pss_cons (ps_if (PW.pt (pw_or (pt_cmpR op_lt (pv 3) pe_int (nomark _)) (pw_or1 (PW.pt (pw_and (pt_cmpR op_lt (pv 2) pe_int (nomark _)) (pw_and1 (pt_cmpR op_gt (pv 3) pe_int (nomark _)))))))) (pss_one (ps_ret (pe_tup (pa_cons pe_str (pa_cons (pv 5) (pa_cons (pv 6) pa_nil)))))) pss_nil)
    (pss_cons (ps_if (pt_cmpR op_eq (pv 3) pe_int (nomark _)) (pss_one (ps_ret (pe_ix ixL (pe_lst (pa_cons (pe_tup (pa_cons pe_str (pa_cons (pv 5) (pa_cons (pv 6) pa_nil)))) (pa_cons (pe_tup (pa_cons pe_str (pa_cons (pv 5) (pa_cons (pv 6) pa_nil)))) (pa_cons (pe_tup (pa_cons pe_str pa_nil)) (pa_cons (pe_tup (pa_cons pe_str pa_nil)) pa_nil))))) (pe_cal C_l_take hr (pa_cons (pv 0) (pa_cons pe_int pa_nil))) (fun _ _ => rfl)))) pss_nil)
    (pss_cons (ps_if (pt_cmpR op_eq (pv 3) pe_int (nomark _)) (pss_one (ps_ret (pe_tup (pa_cons pe_str (pa_cons (pv 5) pa_nil))))) pss_nil)
    (pss_cons (ps_if (pt_cmpR op_eq (pv 3) pe_int (nomark _)) (pss_one (ps_ret (pe_tup (pa_cons pe_str (pa_cons (pe_cal C_l_condition hr (pa_cons (pv 0) (pa_cons (pv 1) (pa_cons (pe_op op_sub (pv 2) pe_int) pa_nil)))) pa_nil))))) pss_nil)
    (pss_cons (ps_set (i := 7) sc_l_condition.nd rfl (Or.inl rfl) (pe_callTy cr_tupL (by rfl) T.ntuple (by decide +kernel) (pa_cons (pe_lc (own := [("_law_k", 8)]) rfl sc_l_condition.nd (pi_range1 (by rfl) T.nrange (pa_cons (pe_cal C_l_take hr (pa_cons (pv 0) (pa_cons pe_int pa_nil))) pa_nil)) (blkOk_by (own := [("_law_k", 8)]) (N := N_l_condition) (sc := defScope s_l_condition) (by decide +kernel)) (fun _ _ _ _ _ => (pg_name (i := 8) sc_l_condition.nd rfl (Or.inl rfl))) (fun _ _ _ _ _ => pts_nil) (fun _ _ _ _ _ => (pe_cal C_l_condition hr (pa_cons (pv 0) (pa_cons (pv 1) (pa_cons (pe_op op_sub (pv 2) pe_int) pa_nil)))))) pa_nil)))
    (pss_one (ps_ret (pe_tup (pa_cons (pe_ix ixL (pe_lst (pa_cons pe_str (pa_cons pe_str pa_nil))) (pe_cal C_l_take hr (pa_cons (pv 0) (pa_cons pe_int pa_nil))) (fun _ _ => rfl)) (pa_cons (pv 7) pa_nil)))))))))))))), ?_⟩
  wp_walk using u_c
  refine take_of hd (by omega) fun kd H1 k0 k9 f1 => ?_
  wp_walk using u_lstRg, u_cat
  refine new_lst (by decide) fun l1 H2 h2 s2 e2 => ?_
  wp_walk using u_lstRg, u_cat
  refine ⟨rgOk_0 (by omega), new_lst1 fun l2 H3 h3 s3 e3 => ?_⟩
  wp_walk using s3 _ _ e2, e3
  refine ⟨by rw [rgV_length, sizeLine_eq]; omega, new_lst1 fun lp H4 h4 s4 e4 => ?_⟩
  have f4 : Fr d H H4 := ((f1.same s2).same s3).same s4
  have np : lp ≠ d := ((f1.same s2).same s3).d1.fresh h4
  have hlen : (V.int (-1) :: rgV 0 (r : Int)).length = r + 1 := by
    rw [List.length_cons, rgV_length]
    omega
  wp_walk using e4
  refine take_of f4.d1 (by omega) fun i1 H5 a0 a1 f5 => ?_
  have e5 := f5.sb _ _ e4 np
  wp_walk using e5
  refine atP a0 a1 fun one ho => ?_
  wp_walk using e5
  refine take_of f5.d1 (by omega) fun i2 H6 b0 b1 f6 => ?_
  have e6 := f6.sb _ _ e5 np
  have F6 : Fr d H H6 := (f4.trans f5).trans f6
  wp_walk using e6
  refine atP b0 b1 fun oth ht => ?_
  have less : ∀ (Q' : VK), (∀ y H', Same H6 H' → Rp H' (eC (.lf (.ls one oth))) y → Q' y H') → NewTL H6 [.str "less", .int one, .int oth] Q' := fun Q' q' =>
    new_tup (ks := [.text "less", .num one, .num oth]) (rps_3 rfl rfl rfl) (by simp) q'
  have give : ∀ (c : Cn) (y : V) (H' : Hp), okC r c → kind c → Fr d H6 H' → Rp H' (eC c) y → Q y H' := fun c y H' h1 h2 h3 h4 => q c y H' h1 h2 (F6.trans h3) h4
  refine ite2 (fun c5 => ?_) fun c5 => ite2 (fun c2 => ite2 (fun c6 => ?_) fun c6 => ite2 (fun h5 => ?_) fun h5 => ite2 (fun h6 => ?_) fun h6 => absurd (show kd = 5 ∨ kd = 6 by omega) (by omega)) fun c2 => ?_
  · exact less _ fun y G t w => give (.lf (.ls one oth)) y G ⟨ho, ht⟩ (hk _) (Fr.of F6.d1 t) w
  · exact less _ fun y G t w => give (.lf (.ls one oth)) y G ⟨ho, ht⟩ (hk _) (Fr.of F6.d1 t) w
  · skip
    refine new_tup (ks := [.text "same", .num one, .num oth]) (rps_3 rfl rfl rfl) (by simp) fun x1 G1 t1 w1 => ?_
    refine new_tup (ks := [.text "same", .num one, .num oth]) (rps_3 rfl rfl rfl) (by simp) fun x2 G2 t2 w2 => ?_
    refine new_tup (ks := [.text "true"]) (Rps.one rfl) (by simp) fun x3 G3 t3 w3 => ?_
    refine new_tup (ks := [.text "false"]) (Rps.one rfl) (by simp) fun x4 G4 t4 w4 => ?_
    have S4 := ((t1.trans t2).trans t3).trans t4
    refine new_lst (by simp) fun lq G5 g5 t5 w5 => ?_
    have nq : lq ≠ d := (Fr.of F6.d1 S4).d1.fresh g5
    refine take_of (Fr.of F6.d1 (S4.trans t5)).d1 (by decide) fun i3 G6 c0 c1 fg => ?_
    refine ⟨lq, rfl, _, fg.sb _ _ w5 nq, i3, rfl, any_at (H := G6) c0 (by simpa using c1) fun x hx => ?_⟩
    simp only [List.mem_cons, List.not_mem_nil, or_false] at hx
    have fr := (Fr.of F6.d1 (S4.trans t5)).trans fg
    rcases hx with rfl | rfl | rfl | rfl
    · exact give (.lf (.sm one oth)) _ _ ⟨ho, ht⟩ (hk _) fr (fg.rp (w1.up (((t2.trans t3).trans t4).trans t5)))
    · exact give (.lf (.sm one oth)) _ _ ⟨ho, ht⟩ (hk _) fr (fg.rp (w2.up ((t3.trans t4).trans t5)))
    · exact give (.lf .tt) _ _ trivial (hk _) fr (fg.rp (w3.up (t4.trans t5)))
    · exact give (.lf .ff) _ _ trivial (hk _) fr (fg.rp (w4.up t5))
  · exact new_tup (ks := [.text "empty", .num one]) (rps_2 rfl rfl) (by simp) fun y G t w => give (.lf (.em one)) y G ho (hk _) (Fr.of F6.d1 t) w
  obtain ⟨hK, rfl, hR2⟩ := hR (by omega)
  refine ite2 (fun h5 => ?_) fun h5 => ite2 (fun h6 => ?_) fun h6 => ite2 (fun h7 => ?_) fun h7 => ?_
  · skip
    refine new_tup (ks := [.text "same", .num one, .num oth]) (rps_3 rfl rfl rfl) (by simp) fun x1 G1 t1 w1 => ?_
    refine new_tup (ks := [.text "same", .num one, .num oth]) (rps_3 rfl rfl rfl) (by simp) fun x2 G2 t2 w2 => ?_
    refine new_tup (ks := [.text "true"]) (Rps.one rfl) (by simp) fun x3 G3 t3 w3 => ?_
    refine new_tup (ks := [.text "false"]) (Rps.one rfl) (by simp) fun x4 G4 t4 w4 => ?_
    have S4 := ((t1.trans t2).trans t3).trans t4
    refine new_lst (by simp) fun lq G5 g5 t5 w5 => ?_
    have nq : lq ≠ d := (Fr.of F6.d1 S4).d1.fresh g5
    refine take_of (Fr.of F6.d1 (S4.trans t5)).d1 (by decide) fun i3 G6 c0 c1 fg => ?_
    refine ⟨lq, rfl, _, fg.sb _ _ w5 nq, i3, rfl, any_at (H := G6) c0 (by simpa using c1) fun x hx => ?_⟩
    simp only [List.mem_cons, List.not_mem_nil, or_false] at hx
    have fr := (Fr.of F6.d1 (S4.trans t5)).trans fg
    rcases hx with rfl | rfl | rfl | rfl
    · exact give (.lf (.sm one oth)) _ _ ⟨ho, ht⟩ (hk _) fr (fg.rp (w1.up (((t2.trans t3).trans t4).trans t5)))
    · exact give (.lf (.sm one oth)) _ _ ⟨ho, ht⟩ (hk _) fr (fg.rp (w2.up ((t3.trans t4).trans t5)))
    · exact give (.lf .tt) _ _ trivial (hk _) fr (fg.rp (w3.up (t4.trans t5)))
    · exact give (.lf .ff) _ _ trivial (hk _) fr (fg.rp (w4.up t5))
  · exact new_tup (ks := [.text "empty", .num one]) (rps_2 rfl rfl) (by simp) fun y G t w => give (.lf (.em one)) y G ho (hk _) (Fr.of F6.d1 t) w
  · refine hR2 _ _ _ _ ⟨d, r, rfl, hr2, F6.d1, fun c y G hc hc2 fg w => ?_⟩
    obtain ⟨l, rfl⟩ : ∃ l, c = .lf l := by cases c <;> first | exact ⟨_, rfl⟩ | exact hc2.elim
    exact new_tup (ks := [.text "not", eL l]) (rps_2 rfl w) (by simp) fun z G2 t2 w2 => give (.nt l) z G2 hc (hK _) (fg.same t2) w2
  · wp_walk using u_lcR
    refine take_of F6.d1 (by decide) fun n H7 n0 n3 f7 => ?_
    obtain ⟨n, rfl⟩ : ∃ k : Nat, n = k := ⟨n.toNat, by omega⟩
    have F7 := F6.trans f7
    wp_walk using u_lcR
    refine ⟨⟨by omega, by omega⟩, ?_⟩
    rw [Int.toNat_natCast]
    refine lcRD_of (R := TrR eL) (p := okL r) F7.d1 tr_tub (by omega) (fun i hi G C N fG hC => ?_) fun D acc ks G fG hD hacc hkl hkp hA => ?_
    · wp_walk using u_c
      refine hR2 _ _ _ _ ⟨d, r, rfl, hr2, fG.d1, fun c y G2 hc hc2 fg w => ?_⟩
      obtain ⟨l, rfl⟩ : ∃ l, c = .lf l := by cases c <;> first | exact ⟨_, rfl⟩ | exact hc2.elim
      exact hC y G2 l hc fg w
    · wp_walk using hacc
      have FG := F7.trans fG
      refine new_tup1 hA.tr fun x1 G1 t1 w1 => ?_
      wp_walk using u_c
      refine new_lst (by simp) fun lq G2 g2 t2 w2 => ?_
      have nq : lq ≠ d := (FG.same t1).d1.fresh g2
      wp_walk using u_c
      refine take_of ((FG.same t1).same t2).d1 (by decide) fun i3 G3 c0 c1 fg => ?_
      wp_walk using fg.sb _ _ w2 nq
      refine any_at (H := G3) c0 (by simpa using c1) fun x hx => ?_
      simp only [List.mem_cons, List.not_mem_nil, or_false] at hx
      have fr : Fr d H6 G3 := (((f7.trans fG).same t1).same t2).trans fg
      rcases hx with rfl | rfl
      · exact new_tup (ks := [.text "all", .tup (ks.map eL)]) (rps_2 rfl (fg.rp (w1.up t2))) (by simp) fun z G4 t4 w4 => give (.al ks) z G4 ⟨by omega, hkp⟩ (hK _) (fr.same t4) w4
      · exact new_tup (ks := [.text "any", .tup (ks.map eL)]) (rps_2 rfl (fg.rp (w1.up t2))) (by simp) fun z G4 t4 w4 => give (.an ks) z G4 ⟨by omega, hkp⟩ (hK _) (fr.same t4) w4

end
section
variable {P : Program} {w : World} {K : PySem.W.Frag} {mg : PySem.Str → Option Value} {base : Heap}

abbrev N_l_drawn_case : List PySem.Str := ["_law_draws_here", "_law_registers", "_law_standings", "_law_condition_here", "_law_sources", "_law_moves", "_law_place", "_law_says", "_law_k"]
theorem sc_l_drawn_case : FnScope N_l_drawn_case ["_law_draws_here", "_law_registers", "_law_standings", "_law_condition_here"] (defScope s_l_drawn_case) := ⟨rfl, rfl, rfl, by decide +kernel, rfl, by decide +kernel, by decide +kernel⟩
theorem c_l_drawn_case (D : Df K mg "_law_drawn_case" s_l_drawn_case) (T : Tx K mg) (C_l_take : Cal P w K mg base "_law_take" 1 ["_law_draws_here", "_law_many_here"] spTake) : Cal P w K mg base "_law_drawn_case" 2 ["_law_draws_here", "_law_registers", "_law_standings", "_law_condition_here"] spDcase := by
  refine D.cal sc_l_drawn_case (by rintro vs H Q E ⟨_, _, _, _, _, rfl, _⟩; rfl) (fun _ _ _ _ _ _ us hl => match us, hl with | [_, _, _, _], _ => rfl) fun f cdv A outer s H vs Q E hr h => ?_
  have hu : (A.deeper (envOfC "_law_drawn_case" (defScope s_l_drawn_case) s.heap.objs.size f cdv)).units + 64 < cLine := hr.units
  obtain ⟨d, r, n, c, x, rfl, hr2, hn, hc, hx, hd, q⟩ := h
  refine ⟨_, (pss_cons (ps_set (i := 4) sc_l_drawn_case.nd rfl (Or.inl rfl) (pe_op op_cat (pe_lstRg0 rfl (by rfl) T.nlist (by rfl) T.nrange (pv 1)) (pe_lst (pa_cons (pe_un un_neg pe_int) (pa_cons (pe_un un_neg pe_int) (pa_cons (pe_un un_neg pe_int) pa_nil))))))
    (pss_cons (ps_set (i := 5) sc_l_drawn_case.nd rfl (Or.inl rfl) (pe_lst pa_nil))
    (pss_cons (ps_for PassesOwn.never rfl (pi_range1 (by rfl) T.nrange (pa_cons (pv 1) pa_nil)) (pg_name (i := 6) sc_l_drawn_case.nd rfl (Or.inl rfl)) (pss_one (ps_expr (pe_lm F.slot_list_append F.type_list_append mt_appL (pv 5) (pa_cons (pe_ix ixL (pe_lst (pa_cons (pv 6) (pa_cons (pv 6) (pa_cons (pe_un un_neg pe_int) (pa_cons (pe_ix ixL (pv 4) (pe_cal C_l_take hr (pa_cons (pv 0) (pa_cons (pe_callB cr_lenL (by rfl) T.nlen (by decide +kernel) (pa_cons (pv 4) pa_nil)) pa_nil))) (fun _ _ => rfl)) pa_nil))))) (pe_cal C_l_take hr (pa_cons (pv 0) (pa_cons pe_int pa_nil))) (fun _ _ => rfl)) pa_nil)))))
    (pss_cons (ps_set (i := 7) sc_l_drawn_case.nd rfl (Or.inl rfl) (pe_lst pa_nil))
    (pss_cons (ps_for PassesOwn.never rfl (pi_range1 (by rfl) T.nrange (pa_cons (pe_ix ixL (pe_lst (pa_cons pe_int (pa_cons pe_int (pa_cons pe_int (pa_cons pe_int (pa_cons pe_int (pa_cons pe_int (pa_cons pe_int (pa_cons pe_int pa_nil))))))))) (pe_cal C_l_take hr (pa_cons (pv 0) (pa_cons pe_int pa_nil))) (fun _ _ => rfl)) pa_nil)) (pg_name (i := 8) sc_l_drawn_case.nd rfl (Or.inl rfl)) (pss_one (ps_expr (pe_lm F.slot_list_append F.type_list_append mt_appL (pv 7) (pa_cons (pe_tup (pa_cons (pe_ix ixL (pe_lst (pa_cons pe_int (pa_cons pe_int (pa_cons pe_int (pa_cons pe_int (pa_cons pe_int (pa_cons (pe_op op_pow pe_int pe_int) pa_nil))))))) (pe_cal C_l_take hr (pa_cons (pv 0) (pa_cons pe_int pa_nil))) (fun _ _ => rfl)) (pa_cons (pe_ix ixL (pv 4) (pe_cal C_l_take hr (pa_cons (pv 0) (pa_cons (pe_callB cr_lenL (by rfl) T.nlen (by decide +kernel) (pa_cons (pv 4) pa_nil)) pa_nil))) (fun _ _ => rfl)) pa_nil))) pa_nil)))))
    (pss_one (ps_ret (pe_tup (pa_cons (pv 3) (pa_cons (pe_callTy cr_tupL (by rfl) T.ntuple (by decide +kernel) (pa_cons (pv 5) pa_nil)) (pa_cons (pe_callTy cr_tupL (by rfl) T.ntuple (by decide +kernel) (pa_cons (pv 7) pa_nil)) (pa_cons (pe_cal C_l_take hr (pa_cons (pv 0) (pa_cons (pv 2) pa_nil))) pa_nil)))))))))))), ?_⟩
  wp_walk using u_lstRg, u_cat
  refine ⟨rgOk_0 (by omega), new_lst1 fun l1 H1 h1 s1 e1 => ?_⟩
  wp_walk using u_lstRg, u_cat
  refine new_lst (by simp) fun l2 H2 h2 s2 e2 => ?_
  have S2 := s1.trans s2
  wp_walk using s2 _ _ e1, e2
  refine ⟨by rw [rgV_length, sizeLine_eq]; omega, new_lst1 fun ls H3 h3 s3 e3 => ?_⟩
  have F3 := (Fr.of hd S2).same s3
  have nls : ls ≠ d := (Fr.of hd S2).d1.fresh h3
  wp_walk using u_c
  refine new_lst (by simp) fun lm H4 h4 s4 e4 => ?_
  have F4 := F3.same s4
  have nlm : lm ≠ d := F3.d1.fresh h4
  have lm0 : H lm = none := F3.back h4
  have n34 : ls ≠ lm := ne_lst h4 e3
  wp_walk using u_forR
  refine ⟨⟨by omega, by omega⟩, ?_⟩
  rw [Int.toNat_natCast]
  obtain ⟨Pv, hPv⟩ : ∃ Pv : Nat → L2.St → Hp → Prop, Pv = fun i σ H' => ∃ (z : Option V) (ms : List Int), σ = [some (.ref d), some (.int r), some (.int n), some x, some (.ref ls), some (.ref lm), z, none, none] ∧ Fr d H H' ∧ H' ls = some (.lst (rgV 0 (r : Int) ++ [V.int (-1), V.int (-1), V.int (-2)])) ∧ H' lm = some (.lst (ms.map V.int)) ∧ ms.length = i ∧ ∀ s ∈ ms, okS r s := ⟨_, rfl⟩
  refine forR_of Pv ?_ ?_ ?_
  · rw [hPv]
    exact ⟨_, [], rfl, F4, s4 _ _ e3, e4, rfl, fun _ h => nomatch h⟩
  · intro i σ H' hi hp
    rw [hPv] at hp
    obtain ⟨z, ms, rfl, F, es, em, hl, hm⟩ := hp
    wp_walk using em, es
    refine take_of F.d1 len_srcs fun i1 H5 a0 a1 f5 => ?_
    wp_walk using f5.sb _ _ es nls
    refine at_srcs a0 a1 fun s hs => ?_
    refine new_lst (by simp) fun lq H6 h6 s6 e6 => ?_
    wp_walk using u_c
    have F6 := (F.trans f5).same s6
    refine take_of F6.d1 (by decide) fun i2 H7 b0 b1 f7 => ?_
    wp_walk using f7.sb _ _ e6 (f5.d1.fresh h6)
    refine any_at (H := H7) b0 (by simpa using b1) fun y hy => ?_
    have hy' : ∃ s2, y = .int s2 ∧ okS r s2 := by
      simp only [List.mem_cons, List.not_mem_nil, or_false] at hy
      rcases hy with rfl | rfl | rfl | rfl
      · exact ⟨_, rfl, by omega, by omega⟩
      · exact ⟨_, rfl, by omega, by omega⟩
      · exact ⟨_, rfl, by omega, by omega⟩
      · exact ⟨_, rfl, hs⟩
    obtain ⟨s2, rfl, hs2⟩ := hy'
    have em7 := f7.sb _ _ (s6 _ _ (f5.sb _ _ em nlm)) nlm
    have es7 := f7.sb _ _ (s6 _ _ (f5.sb _ _ es nls)) nls
    wp_walk using em7
    refine ⟨by rw [List.length_map, sizeLine_eq]; omega, ?_⟩
    rw [hPv]
    refine ⟨_, ms ++ [s2], rfl, (F6.trans f7).new lm0, by rw [upd_ne n34]; exact es7, by rw [upd_same, List.map_append]; rfl, by rw [List.length_append, hl]; rfl, fun t ht => ?_⟩
    rcases List.mem_append.mp ht with h | h
    · exact hm t h
    · rw [List.mem_singleton.mp h]
      exact hs2
  · intro σ H' hp
    rw [hPv] at hp
    obtain ⟨z, ms, rfl, F, es, em, hl, hm⟩ := hp
    clear hPv Pv
    wp_walk using u_c
    refine new_lst (by simp) fun ly H5 h5 s5 e5 => ?_
    have F5 := F.same s5
    have nly : ly ≠ d := F.d1.fresh h5
    have ly0 : H ly = none := F.back h5
    have nsy : ls ≠ ly := ne_lst h5 es
    have nmy : lm ≠ ly := ne_lst h5 em
    wp_walk using u_forR
    refine new_lst (by simp) fun lz H6 h6 s6 e6 => ?_
    wp_walk using u_forR
    have F6 := F5.same s6
    refine take_of F6.d1 (by decide) fun i2 H7 b0 b1 f7 => ?_
    have F7 := F6.trans f7
    wp_walk using f7.sb _ _ e6 (F5.d1.fresh h6)
    refine any_at (H := H7) b0 (by simpa using b1) fun y hy => ?_
    have hy' : ∃ m : Nat, y = .int m ∧ m ≤ 8 := by
      simp only [List.mem_cons, List.not_mem_nil, or_false] at hy
      rcases hy with rfl | rfl | rfl | rfl | rfl | rfl | rfl | rfl
      · exact ⟨0, rfl, by omega⟩
      · exact ⟨1, rfl, by omega⟩
      · exact ⟨1, rfl, by omega⟩
      · exact ⟨2, rfl, by omega⟩
      · exact ⟨0, rfl, by omega⟩
      · exact ⟨1, rfl, by omega⟩
      · exact ⟨2, rfl, by omega⟩
      · exact ⟨8, rfl, by omega⟩
    obtain ⟨m, rfl, hm8⟩ := hy'
    refine ⟨_, rfl, ⟨by omega, by omega⟩, ?_⟩
    rw [Int.toNat_natCast]
    have up7 : ∀ b o, H' b = some o → b ≠ d → H7 b = some o := fun b o e hb => f7.sb _ _ (s6 _ _ (s5 _ _ e)) hb
    obtain ⟨Pv, hPv⟩ : ∃ Pv : Nat → L2.St → Hp → Prop, Pv = fun i σ H' => ∃ (z2 : Option V) (ss : List (Int × Int)) (xs : List V), σ = [some (.ref d), some (.int r), some (.int n), some x, some (.ref ls), some (.ref lm), z, some (.ref ly), z2] ∧ Fr d H H' ∧ H' ls = some (.lst (rgV 0 (r : Int) ++ [V.int (-1), V.int (-1), V.int (-2)])) ∧ H' lm = some (.lst (ms.map V.int)) ∧ H' ly = some (.lst xs) ∧ Rps H' (ss.map eP) xs ∧ ss.length = i ∧ ∀ s ∈ ss, okS r s.2 := ⟨_, rfl⟩
    refine forR_of Pv ?_ ?_ ?_
    · rw [hPv]
      exact ⟨_, [], [], rfl, F7, up7 _ _ es nls, up7 _ _ em nlm, f7.sb _ _ (s6 _ _ e5) nly, rfl, rfl, fun _ h => nomatch h⟩
    · intro i σ H' hi hp
      rw [hPv] at hp
      obtain ⟨z2, ss, xs, rfl, F, es, em, ey, hR, hl, hm⟩ := hp
      wp_walk using ey, es
      refine ⟨⟨by decide, by decide, by decide⟩, ?_⟩
      refine new_lst (by simp) fun lq H8 h8 s8 e8 => ?_
      wp_walk using u_c
      refine take_of (F.same s8).d1 (by decide) fun i4 H9 c0 c1 f9 => ?_
      wp_walk using f9.sb _ _ e8 (F.d1.fresh h8)
      refine any_at (H := H9) c0 (by simpa using c1) fun y hy => ?_
      have hy' : ∃ t : Int, y = .int t := by
        simp only [List.mem_cons, List.not_mem_nil, or_false] at hy
        rcases hy with rfl | rfl | rfl | rfl | rfl | rfl <;> exact ⟨_, rfl⟩
      obtain ⟨t, rfl⟩ := hy'
      have F9 := (F.same s8).trans f9
      have up9 : ∀ b o, H' b = some o → b ≠ d → H9 b = some o := fun b o e hb => f9.sb _ _ (s8 _ _ e) hb
      have es9 := up9 _ _ es nls
      wp_walk using es9
      refine take_of F9.d1 len_srcs fun i5 H10 a0 a1 f10 => ?_
      wp_walk using f10.sb _ _ es9 nls
      refine at_srcs a0 a1 fun s hs => ?_
      refine new_tup (ks := [.num t, .num s]) (rps_2 rfl rfl) (by simp) fun y H11 s11 r11 => ?_
      have up11 : ∀ b o, H' b = some o → b ≠ d → H11 b = some o := fun b o e hb => s11 _ _ (f10.sb _ _ (up9 b o e hb) hb)
      have ey11 := up11 _ _ ey nly
      wp_walk using ey11
      have hxs := hR.length
      rw [List.length_map] at hxs
      refine ⟨by rw [sizeLine_eq]; omega, ?_⟩
      rw [hPv]
      have F11 := (F9.trans f10).same s11
      have tb : Tub H11 (upd H11 ly (.lst (xs ++ [y]))) := tub_lst ey11
      refine ⟨_, ss ++ [(t, s)], xs ++ [y], rfl, F11.new ly0, by rw [upd_ne nsy]; exact up11 _ _ es nls, by rw [upd_ne nmy]; exact up11 _ _ em nlm, upd_same, ?_, by rw [List.length_append, hl]; rfl, fun p hp => ?_⟩
      · rw [List.map_append]
        exact (Rps.ts tb _ _ ((f10.rps (f9.rps (hR.up s8))).up s11)).app (Rps.one (Rp.ts tb _ _ r11))
      · rcases List.mem_append.mp hp with h | h
        · exact hm p h
        · rw [List.mem_singleton.mp h]
          exact hs
    · intro σ H' hp
      rw [hPv] at hp
      obtain ⟨z2, ss, xs, rfl, F, es, em, ey, hR, hls, hss⟩ := hp
      wp_walk using em, ey
      refine new_tup1 (ks := ms.map NestedKey.num) (rps_num.mpr rfl) fun y1 H8 s8 r8 => ?_
      wp_walk using s8 _ _ ey
      refine new_tup1 (hR.up s8) fun y2 H9 s9 r9 => ?_
      wp_walk using u_c
      have F9 := (F.same s8).same s9
      refine take_of F9.d1 (by omega) fun i H10 a0 a1 f10 => ?_
      obtain ⟨i, rfl⟩ : ∃ k : Nat, i = k := ⟨i.toNat, by omega⟩
      wp_walk using u_c
      refine new_tup (ks := [eC c, .tup (ms.map NestedKey.num), .tup (ss.map eP), .num i]) ⟨x, [y1, y2, .int i], rfl, (F9.trans f10).rp hx, rps_3 (f10.rp (r8.up s9)) (f10.rp r9) rfl⟩ (by simp) fun y3 H11 s11 r11 => ?_
      exact q ⟨c, ms, ss, i⟩ y3 H11 ⟨hc, hl, hm, by show ss.length ≤ 8; omega, hss, by show i < n; omega⟩ ((F9.trans f10).same s11) r11

end
section
variable {P : Program} {w : World} {K : PySem.W.Frag} {mg : PySem.Str → Option Value} {base : Heap}

abbrev N_l_drawn_machine : List PySem.Str := ["_law_draws_here", "_law_tags", "_law_registers", "_law_standings", "_law_steps", "_law_standing", "_law_rows", "_law_tag", "_law_cases", "_law_k", "_law_condition_here"]
theorem sc_l_drawn_machine : FnScope N_l_drawn_machine ["_law_draws_here", "_law_tags", "_law_registers", "_law_standings"] (defScope s_l_drawn_machine) := ⟨rfl, rfl, rfl, by decide +kernel, rfl, by decide +kernel, by decide +kernel⟩
theorem c_l_drawn_machine (D : Df K mg "_law_drawn_machine" s_l_drawn_machine) (T : Tx K mg) (C_l_take : Cal P w K mg base "_law_take" 1 ["_law_draws_here", "_law_many_here"] spTake) (C_l_condition : Cal P w K mg base "_law_condition" 4 ["_law_draws_here", "_law_registers", "_law_depth"] (spCnd 2 fun _ => True)) (C_l_drawn_case : Cal P w K mg base "_law_drawn_case" 2 ["_law_draws_here", "_law_registers", "_law_standings", "_law_condition_here"] spDcase) : Cal P w K mg base "_law_drawn_machine" 5 ["_law_draws_here", "_law_tags", "_law_registers", "_law_standings"] spDm := by
  refine D.cal sc_l_drawn_machine (by rintro vs H Q E ⟨_, _, _, _, rfl, _⟩; rfl) (fun _ _ _ _ _ _ us hl => match us, hl with | [_, _, _, _], _ => rfl) fun f cdv A outer s H vs Q E hr h => ?_
  have hu : (A.deeper (envOfC "_law_drawn_machine" (defScope s_l_drawn_machine) s.heap.objs.size f cdv)).units + 64 < cLine := hr.units
  obtain ⟨d, t, r, n, rfl, ht1, ht6, hr2, hn1, hn3, hd, q⟩ := h
  refine ⟨_, (pss_cons (ps_set (i := 4) sc_l_drawn_machine.nd rfl (Or.inl rfl) (pe_lst pa_nil))
    (pss_cons (ps_for PassesOwn.never rfl (pi_range1 (by rfl) T.nrange (pa_cons (pv 3) pa_nil)) (pg_name (i := 5) sc_l_drawn_machine.nd rfl (Or.inl rfl)) (pss_cons (ps_set (i := 6) sc_l_drawn_machine.nd rfl (Or.inl rfl) (pe_lst pa_nil))
    (pss_cons (ps_for PassesOwn.never rfl (pi_range1 (by rfl) T.nrange (pa_cons (pv 1) pa_nil)) (pg_name (i := 7) sc_l_drawn_machine.nd rfl (Or.inl rfl)) (pss_cons (ps_set (i := 8) sc_l_drawn_machine.nd rfl (Or.inl rfl) (pe_lst pa_nil))
    (pss_cons (ps_for PassesOwn.never rfl (pi_range1 (by rfl) T.nrange (pa_cons (pe_ix ixL (pe_lst (pa_cons pe_int (pa_cons pe_int (pa_cons pe_int (pa_cons pe_int (pa_cons pe_int (pa_cons pe_int pa_nil))))))) (pe_cal C_l_take hr (pa_cons (pv 0) (pa_cons pe_int pa_nil))) (fun _ _ => rfl)) pa_nil)) (pg_name (i := 9) sc_l_drawn_machine.nd rfl (Or.inl rfl)) (pss_cons (ps_set (i := 10) sc_l_drawn_machine.nd rfl (Or.inl rfl) (pe_cal C_l_condition hr (pa_cons (pv 0) (pa_cons (pv 2) (pa_cons pe_int pa_nil)))))
    (pss_one (ps_expr (pe_lm F.slot_list_append F.type_list_append mt_appL (pv 8) (pa_cons (pe_cal C_l_drawn_case hr (pa_cons (pv 0) (pa_cons (pv 2) (pa_cons (pv 3) (pa_cons (pv 10) pa_nil))))) pa_nil))))))
    (pss_one (ps_expr (pe_lm F.slot_list_append F.type_list_append mt_appL (pv 6) (pa_cons (pe_callTy cr_tupL (by rfl) T.ntuple (by decide +kernel) (pa_cons (pv 8) pa_nil)) pa_nil)))))))
    (pss_one (ps_expr (pe_lm F.slot_list_append F.type_list_append mt_appL (pv 4) (pa_cons (pe_callTy cr_tupL (by rfl) T.ntuple (by decide +kernel) (pa_cons (pv 6) pa_nil)) pa_nil)))))))
    (pss_one (ps_ret (pe_tup (pa_cons (pv 1) (pa_cons (pv 2) (pa_cons (pe_callTy cr_tupL (by rfl) T.ntuple (by decide +kernel) (pa_cons (pv 4) pa_nil)) pa_nil)))))))), ?_⟩
  wp_walk using u_forR
  refine new_lst (by simp) fun la H1 h1 s1 e1 => ?_
  wp_walk using u_forR
  have nla : la ≠ d := hd.fresh h1
  refine ⟨⟨by omega, by omega⟩, ?_⟩
  rw [Int.toNat_natCast]
  obtain ⟨Pv, hPv⟩ : ∃ Pv : Nat → L2.St → Hp → Prop, Pv = fun i σ H' => ∃ (z1 z2 z3 z4 z5 z6 : Option V) (steps : List (List (List Cs))), σ = [some (.ref d), some (.int t), some (.int r), some (.int n), some (.ref la), z1, z2, z3, z4, z5, z6] ∧ Fr d H H' ∧ LT H' la (steps.map eRow) ∧ steps.length = i ∧ ∀ row ∈ steps, row.length = t ∧ ∀ cs ∈ row, okR r n 3 cs := ⟨_, rfl⟩
  refine forR_of Pv ?_ ?_ ?_
  · rw [hPv]
    exact ⟨_, _, _, _, _, _, [], rfl, Fr.of hd s1, ⟨_, e1, rfl⟩, rfl, fun _ h => nomatch h⟩
  · intro i σ H2 hi hp
    rw [hPv] at hp
    obtain ⟨z1, z2, z3, z4, z5, z6, steps, rfl, F2, la2, hsl, hst⟩ := hp
    wp_walk using u_forR
    refine new_lst (by simp) fun lb H3 h3 s3 e3 => ?_
    have nlb : lb ≠ d := F2.d1.fresh h3
    have lb0 : H lb = none := F2.back h3
    have nab : la ≠ lb := la2.ne h3
    wp_walk using u_forR
    refine ⟨⟨by omega, by omega⟩, ?_⟩
    rw [Int.toNat_natCast]
    obtain ⟨Pw, hPw⟩ : ∃ Pv : Nat → L2.St → Hp → Prop, Pv = fun j σ H' => ∃ (z3 z4 z5 z6 : Option V) (row : List (List Cs)), σ = [some (.ref d), some (.int t), some (.int r), some (.int n), some (.ref la), some (.int i), some (.ref lb), z3, z4, z5, z6] ∧ Fr d H H' ∧ LT H' la (steps.map eRow) ∧ LT H' lb (row.map eR) ∧ row.length = j ∧ ∀ cs ∈ row, okR r n 3 cs := ⟨_, rfl⟩
    refine forR_of Pw ?_ ?_ ?_
    · rw [hPw]
      exact ⟨_, _, _, _, [], rfl, F2.same s3, la2.up s3, ⟨_, e3, rfl⟩, rfl, fun _ h => nomatch h⟩
    · intro j σ H4 hj hp
      rw [hPw] at hp
      obtain ⟨z3, z4, z5, z6, row, rfl, F4, la4, lb4, hrl, hro⟩ := hp
      wp_walk using u_forR
      refine new_lst (by simp) fun lc H5 h5 s5 e5 => ?_
      have nlc : lc ≠ d := F4.d1.fresh h5
      have lc0 : H lc = none := F4.back h5
      have nac : la ≠ lc := la4.ne h5
      have nbc : lb ≠ lc := lb4.ne h5
      wp_walk using u_forR
      refine new_lst (by simp) fun lq H6 h6 s6 e6 => ?_
      wp_walk using u_forR
      have F6 := (F4.same s5).same s6
      refine take_of F6.d1 (by decide) fun i2 H7 b0 b1 f7 => ?_
      have F7 := F6.trans f7
      wp_walk using f7.sb _ _ e6 ((F4.same s5).d1.fresh h6)
      refine any_at (H := H7) b0 (by simpa using b1) fun y hy => ?_
      have hy' : ∃ m : Nat, y = .int m ∧ m ≤ 3 := by
        simp only [List.mem_cons, List.not_mem_nil, or_false] at hy
        rcases hy with rfl | rfl | rfl | rfl | rfl | rfl
        · exact ⟨1, rfl, by omega⟩
        · exact ⟨1, rfl, by omega⟩
        · exact ⟨2, rfl, by omega⟩
        · exact ⟨2, rfl, by omega⟩
        · exact ⟨3, rfl, by omega⟩
        · exact ⟨0, rfl, by omega⟩
      obtain ⟨m, rfl, hm3⟩ := hy'
      refine ⟨_, rfl, ⟨by omega, by omega⟩, ?_⟩
      rw [Int.toNat_natCast]
      obtain ⟨Px, hPx⟩ : ∃ Pv : Nat → L2.St → Hp → Prop, Pv = fun k σ H' => ∃ (z5 z6 : Option V) (cs : List Cs), σ = [some (.ref d), some (.int t), some (.int r), some (.int n), some (.ref la), some (.int i), some (.ref lb), some (.int j), some (.ref lc), z5, z6] ∧ Fr d H H' ∧ LT H' la (steps.map eRow) ∧ LT H' lb (row.map eR) ∧ LT H' lc (cs.map eK) ∧ cs.length = k ∧ ∀ c ∈ cs, okK r n c := ⟨_, rfl⟩
      refine forR_of Px ?_ ?_ ?_
      · rw [hPx]
        exact ⟨_, _, [], rfl, F7, ((la4.up s5).up s6).fr f7 nla, ((lb4.up s5).up s6).fr f7 nlb, ⟨_, f7.sb _ _ (s6 _ _ e5) nlc, rfl⟩, rfl, fun _ h => nomatch h⟩
      · intro k σ H8 hk hp
        rw [hPx] at hp
        obtain ⟨z5, z6, cs, rfl, F8, la8, lb8, lc8, hcl, hco⟩ := hp
        wp_walk using u_c
        refine ⟨d, r, rfl, hr2, F8.d1, fun c y H9 hc _ f9 w9 => ?_⟩
        have lc9 := lc8.fr f9 nlc
        obtain ⟨ys, g1, g2⟩ := lc9
        wp_walk using g1
        refine ⟨d, r, n, c, y, rfl, hr2, hn1, hc, w9, f9.d1, fun kk y2 H10 hkk f10 w10 => ?_⟩
        have g3 := f10.sb _ _ g1 nlc
        wp_walk using g3
        have hyl := g2.length
        rw [List.length_map] at hyl
        refine ⟨by rw [sizeLine_eq]; omega, ?_⟩
        rw [hPx]
        refine ⟨_, _, cs ++ [kk], rfl, ((F8.trans f9).trans f10).new lc0, ((la8.fr f9 nla).fr f10 nla).other g3 nac, ((lb8.fr f9 nlb).fr f10 nlb).other g3 nbc, ?_, by rw [List.length_append, hcl]; rfl, fun c hc => ?_⟩
        · rw [List.map_append]
          exact LT.push g3 (f10.rps g2) w10
        · rcases List.mem_append.mp hc with h | h
          · exact hco c h
          · rw [List.mem_singleton.mp h]
            exact hkk
      · intro σ H8 hp
        rw [hPx] at hp
        obtain ⟨z5, z6, cs, rfl, F8, la8, lb8, lc8, hcl, hco⟩ := hp
        obtain ⟨ys, g1, g2⟩ := lc8
        obtain ⟨zs, g3, g4⟩ := lb8
        wp_walk using g1, g3
        refine new_tup1 g2 fun y1 H9 s9 r9 => ?_
        wp_walk using s9 _ _ g3
        have hzl := g4.length
        rw [List.length_map] at hzl
        refine ⟨by rw [sizeLine_eq]; omega, ?_⟩
        rw [hPw]
        refine ⟨_, _, _, _, row ++ [cs], rfl, (F8.same s9).new lb0, (la8.up s9).other (s9 _ _ g3) nab, ?_, by rw [List.length_append, hrl]; rfl, fun c hc => ?_⟩
        · rw [List.map_append]
          exact LT.push (s9 _ _ g3) (g4.up s9) r9
        · rcases List.mem_append.mp hc with h | h
          · exact hro c h
          · rw [List.mem_singleton.mp h]
            exact ⟨by omega, hco⟩
    · intro σ H4 hp
      rw [hPw] at hp
      obtain ⟨z3, z4, z5, z6, row, rfl, F4, la4, lb4, hrl, hro⟩ := hp
      obtain ⟨ys, g1, g2⟩ := lb4
      obtain ⟨zs, g3, g4⟩ := la4
      wp_walk using g1, g3
      refine new_tup1 g2 fun y1 H9 s9 r9 => ?_
      wp_walk using s9 _ _ g3
      have hzl := g4.length
      rw [List.length_map] at hzl
      refine ⟨by rw [sizeLine_eq]; omega, ?_⟩
      rw [hPv]
      refine ⟨_, _, _, _, _, _, steps ++ [row], rfl, (F4.same s9).new (show H la = none from h1), ?_, by rw [List.length_append, hsl]; rfl, fun c hc => ?_⟩
      · rw [List.map_append]
        exact LT.push (s9 _ _ g3) (g4.up s9) r9
      · rcases List.mem_append.mp hc with h | h
        · exact hst c h
        · rw [List.mem_singleton.mp h]
          exact ⟨hrl, hro⟩
  · intro σ H2 hp
    rw [hPv] at hp
    obtain ⟨z1, z2, z3, z4, z5, z6, steps, rfl, F2, la2, hsl, hst⟩ := hp
    obtain ⟨ys, g1, g2⟩ := la2
    wp_walk using g1
    refine new_tup1 g2 fun y1 H3 s3 r3 => ?_
    wp_walk using u_c
    refine new_tup (ks := [.num t, .num r, eS steps]) (rps_3 rfl rfl r3) (by simp) fun y2 H4 s4 r4 => ?_
    refine q ⟨t, r, steps⟩ y2 H4 ⟨ht1, ht6, hr2, by show 1 ≤ steps.length; omega, by show steps.length ≤ 3; omega, fun row hr => ?_⟩ ((F2.same s3).same s4) r4
    refine ⟨(hst row hr).1, fun cs hc => ?_⟩
    obtain ⟨p1, p2⟩ := (hst row hr).2 cs hc
    exact ⟨by omega, fun c hc => hsl ▸ p2 c hc⟩

end
section
variable {P : Program} {w : World} {K : PySem.W.Frag} {mg : PySem.Str → Option Value} {base : Heap}

abbrev N_l_with_case : List PySem.Str := ["_law_machine_here", "_law_standing", "_law_tag", "_law_cases", "_law_row"]
theorem sc_l_with_case : FnScope N_l_with_case ["_law_machine_here", "_law_standing", "_law_tag", "_law_cases"] (defScope s_l_with_case) := ⟨rfl, rfl, rfl, by decide +kernel, rfl, by decide +kernel, by decide +kernel⟩
theorem c_l_with_case (D : Df K mg "_law_with_case" s_l_with_case) (T : Tx K mg) : Cal P w K mg base "_law_with_case" 1 ["_law_machine_here", "_law_standing", "_law_tag", "_law_cases"] spPut := by
  refine D.cal sc_l_with_case (by rintro vs H Q E ⟨_, _, _, _, _, _, _, rfl, _⟩; rfl) (fun _ _ _ _ _ _ us hl => match us, hl with | [_, _, _, _], _ => rfl) fun f cdv A outer s H vs Q E hr h => ?_
  have hu : (A.deeper (envOfC "_law_with_case" (defScope s_l_with_case) s.heap.objs.size f cdv)).units + 64 < cLine := hr.units
  obtain ⟨m, s0, t, cs, x, l, xs, rfl, ok, hs, ht, hx, hl, hr, q⟩ := h
  refine ⟨_, (pss_cons (ps_set (i := 4) sc_l_with_case.nd rfl (Or.inl rfl) (pe_ix ixT (pe_ix ixT (pv 0) pe_int (fun _ _ => rfl)) (pv 1) (fun _ _ => rfl)))
    (pss_cons (ps_set (i := 4) sc_l_with_case.nd rfl (Or.inl rfl) (pe_op op_catX (pe_op op_catX (pe_slice sl_X (pv 4) po_none (po_some (pv 2))) (pe_tup (pa_cons (pe_callTy cr_tupL (by rfl) T.ntuple (by decide +kernel) (pa_cons (pv 3) pa_nil)) pa_nil))) (pe_slice sl_X (pv 4) (po_some (pe_op op_add (pv 2) pe_int)) po_none)))
    (pss_one (ps_ret (pe_tup (pa_cons (pe_ix ixT (pv 0) pe_int (fun _ _ => rfl)) (pa_cons (pe_ix ixT (pv 0) pe_int (fun _ _ => rfl)) (pa_cons (pe_op op_catX (pe_op op_catX (pe_slice sl_X (pe_ix ixT (pv 0) pe_int (fun _ _ => rfl)) po_none (po_some (pv 1))) (pe_tup (pa_cons (pv 4) pa_nil))) (pe_slice sl_X (pe_ix ixT (pv 0) pe_int (fun _ _ => rfl)) (po_some (pe_op op_add (pv 1) pe_int)) po_none)) pa_nil)))))))), ?_⟩
  obtain ⟨pm, am, rows, rfl, m1, m2, m3⟩ := rp_m hx
  obtain ⟨p, row, rfl2, r1, r2⟩ : ∃ p row, rows[s0]? = some (.ref p) ∧ H p = some (.tup row) ∧ Rps H ((m.steps[s0]).map eR) row := by
    obtain ⟨x, e1, e2⟩ := m3.get (i := s0) (k := eRow m.steps[s0]) (by rw [List.getElem?_map, List.getElem?_eq_getElem hs]; rfl)
    obtain ⟨p, row, rfl, e4, e5⟩ := rp_tup e2
    exact ⟨p, row, e1, e4, e5⟩
  have hrl := r2.length
  rw [List.length_map, (ok.rows _ (List.getElem_mem hs)).1] at hrl
  have hml := m3.length
  rw [List.length_map] at hml
  have h3 := ok.s3
  have h6 := ok.t2
  wp_walk using m1, m2, atI_z, rfl2, r1, hl
  have c1 : cutV row none (some (t : Int)) = row.take t := cut_take (by omega)
  have c2 : cutV row (some ((t : Int) + 1)) none = row.drop (t + 1) := cut_drop (n := t + 1) (by omega)
  rw [c1]
  refine new_x (r2.take t) fun v1 H1 s1 w1 => ?_
  wp_walk using s1 _ _ hl
  refine new_tup1 (hr.up s1) fun v2 H2 s2 w2 => ?_
  wp_walk using u_c
  refine new_tup (Rps.one w2) (by simp) fun v3 H3 s3 w3 => ?_
  obtain ⟨a1, y1, rfl, f1, g1⟩ := w1
  obtain ⟨a3, y3, rfl, f3, g3⟩ := w3
  wp_walk using (s2.trans s3) _ _ f1, f3
  have ly1 := g1.length
  have ly3 := g3.length
  rw [List.length_take, List.length_map] at ly1
  simp only [List.length_cons, List.length_nil] at ly3
  refine ⟨by rw [sizeLine_eq]; omega, new_x ((g1.up (s2.trans s3)).app g3) fun v4 H4 s4 w4 => ?_⟩
  have S4 := ((s1.trans s2).trans s3).trans s4
  wp_walk using S4 _ _ r1, c2
  refine new_x ((r2.drop (t + 1)).up S4) fun v5 H5 s5 w5 => ?_
  obtain ⟨a4, y4, rfl, f4, g4⟩ := w4
  obtain ⟨a5, y5, rfl, f5, g5⟩ := w5
  wp_walk using s5 _ _ f4, f5
  have ly4 := g4.length
  have ly5 := g5.length
  have lm : (m.steps[s0]).length = m.tags := (ok.rows _ (List.getElem_mem hs)).1
  simp only [List.length_append, List.length_take, List.length_drop, List.length_map, List.length_cons, List.length_nil] at ly4 ly5
  refine ⟨by rw [sizeLine_eq]; omega, new_x ((g4.up s5).app g5) fun v6 H6 s6 w6 => ?_⟩
  have S6 := (S4.trans s5).trans s6
  have c3 : cutV rows none (some (s0 : Int)) = rows.take s0 := cut_take (by omega)
  have c4 : cutV rows (some ((s0 : Int) + 1)) none = rows.drop (s0 + 1) := cut_drop (n := s0 + 1) (by omega)
  wp_walk using S6 _ _ m1, S6 _ _ m2, c3
  refine new_x ((m3.take s0).up S6) fun v7 H7 s7 w7 => ?_
  wp_walk using u_c
  refine new_tup (Rps.one (w6.up s7)) (by simp) fun v8 H8 s8 w8 => ?_
  obtain ⟨a7, y7, rfl, f7, g7⟩ := w7
  obtain ⟨a8, y8, rfl, f8, g8⟩ := w8
  wp_walk using s8 _ _ f7, f8
  have ly7 := g7.length
  have ly8 := g8.length
  simp only [List.length_append, List.length_take, List.length_drop, List.length_map, List.length_cons, List.length_nil] at ly7 ly8
  refine ⟨by rw [sizeLine_eq]; omega, new_x ((g7.up s8).app g8) fun v9 H9 s9 w9 => ?_⟩
  have S9 := ((S6.trans s7).trans s8).trans s9
  wp_walk using S9 _ _ m1, S9 _ _ m2, c4
  refine new_x ((m3.drop (s0 + 1)).up S9) fun v10 H10 s10 w10 => ?_
  obtain ⟨a9, y9, rfl, f9, g9⟩ := w9
  obtain ⟨a10, y10, rfl, f10, g10⟩ := w10
  wp_walk using s10 _ _ f9, f10
  have ly9 := g9.length
  have ly10 := g10.length
  simp only [List.length_append, List.length_take, List.length_drop, List.length_map, List.length_cons, List.length_nil] at ly9 ly10
  refine ⟨by rw [sizeLine_eq]; omega, new_x ((g9.up s10).app g10) fun v11 H11 s11 w11 => ?_⟩
  wp_walk using u_c
  refine new_tup (rps_3 (k := .num m.tags) (l := .num m.regs) rfl rfl w11) (by simp) fun v12 H12 s12 w12 => ?_
  refine q v12 H12 (((S9.trans s10).trans s11).trans s12) ?_
  have e : eM (putC m s0 t cs) = .tup [.num m.tags, .num m.regs, .tup ((m.steps.map eRow).take s0 ++ [.tup (((m.steps[s0]).map eR).take t ++ [.tup (cs.map eK)] ++ ((m.steps[s0]).map eR).drop (t + 1))] ++ (m.steps.map eRow).drop (s0 + 1))] := by
    unfold eM putC eS
    simp only [List.getElem?_eq_getElem hs, Option.getD_some, List.map_append, List.map_take, List.map_drop, List.map_cons, List.map_nil]
    unfold eRow
    simp only [List.map_append, List.map_take, List.map_drop, List.map_cons, List.map_nil, eR]
  rw [e]
  exact w12

def sm0 : Mc := ⟨1, 1, [[[⟨.an [.em 0, .ls 0 (-1)], [(-1)], [(0, (-1))], 0⟩]]]⟩
theorem sm0_ok : okB 5 1 sm0 := bM_ok (by omega) (by decide +kernel)
def sm1 : Mc := ⟨1, 2, [[[⟨.al [.ls 0 1, .ls (-1) 1], [1, (-1)], [(0, 1)], 0⟩, ⟨.al [.ls 1 0, .ls 1 (-1)], [1, (-1)], [(1, 1)], 0⟩, ⟨.lf (.tt), [1, (-1)], [], 0⟩]]]⟩
theorem sm1_ok : okB 5 1 sm1 := bM_ok (by omega) (by decide +kernel)
def sm2 : Mc := ⟨1, 2, [[[⟨.lf (.em 0), [(-1), (-1)], [(0, (-1)), (1, (-1))], 0⟩, ⟨.lf (.ls (-1) 0), [(-1), 1], [(0, (-1)), (1, 1)], 0⟩, ⟨.lf (.ls 1 (-1)), [0, (-1)], [(0, 0), (1, (-1))], 0⟩]]]⟩
theorem sm2_ok : okB 5 1 sm2 := bM_ok (by omega) (by decide +kernel)
def sm3 : Mc := ⟨1, 2, [[[⟨.lf (.em 0), [(-1), (-2)], [(0, (-1))], 0⟩, ⟨.lf (.ls 0 (-1)), [(-1), 0], [(0, (-1)), (1, 0)], 0⟩, ⟨.an [.em 1, .ls 1 (-1)], [0, (-1)], [(0, 0), (1, (-1))], 0⟩, ⟨.lf (.tt), [0, 1], [(1, 1)], 0⟩]]]⟩
theorem sm3_ok : okB 5 1 sm3 := bM_ok (by omega) (by decide +kernel)
def sm4 : Mc := ⟨1, 2, [[[⟨.lf (.em 1), [(-1), (-1)], [], 0⟩, ⟨.lf (.ls 1 (-1)), [0, (-1)], [], 0⟩, ⟨.lf (.tt), [(-1), (-1)], [(0, 0)], 0⟩]]]⟩
theorem sm4_ok : okB 5 1 sm4 := bM_ok (by omega) (by decide +kernel)
def sm5 : Mc := ⟨1, 2, [[[⟨.lf (.em 0), [(-1), (-2)], [], 0⟩, ⟨.lf (.ls 0 (-1)), [0, (-1)], [], 1⟩, ⟨.lf (.tt), [(-1), (-2)], [], 0⟩]], [[⟨.al [.ls 0 (-1), .ls (-1) 1], [0, (-1)], [(0, (-1))], 1⟩, ⟨.lf (.ls (-1) 0), [(-1), 1], [], 1⟩]]]⟩
theorem sm5_ok : okB 5 1 sm5 := bM_ok (by omega) (by decide +kernel)
abbrev N_l_shaped_machine : List PySem.Str := ["_law_draws_here", "_law_up", "_law_kind", "_law_top", "_law_low", "_law_first", "_law_second", "_law_between", "_law_wait"]
theorem sc_l_shaped_machine : FnScope N_l_shaped_machine ["_law_draws_here"] (defScope s_l_shaped_machine) := ⟨rfl, rfl, rfl, by decide +kernel, rfl, by decide +kernel, by decide +kernel⟩
theorem c_l_shaped_machine (D : Df K mg "_law_shaped_machine" s_l_shaped_machine) (T : Tx K mg) (C_l_take : Cal P w K mg base "_law_take" 1 ["_law_draws_here", "_law_many_here"] spTake) : Cal P w K mg base "_law_shaped_machine" 2 ["_law_draws_here"] spSm := by
  refine D.cal sc_l_shaped_machine (by rintro vs H Q E ⟨_, rfl, _⟩; rfl) (fun _ _ _ _ _ _ us hl => match us, hl with | [_], _ => rfl) fun f cdv A outer s H vs Q E hr h => ?_
  have hu : (A.deeper (envOfC "_law_shaped_machine" (defScope s_l_shaped_machine) s.heap.objs.size f cdv)).units + 64 < cLine := hr.units
  obtain ⟨d, rfl, hd, q⟩ := h
  have q' : ∀ m, okB 5 1 m → ∀ H1 H2 y, Fr d H H1 → Same H1 H2 → Rp H2 (eM m) y → Q y H2 := fun m ok H1 H2 y f s r => q m y H2 ok (f.same s) r
  refine ⟨_, (pss_cons (ps_set (i := 1) sc_l_shaped_machine.nd rfl (Or.inl rfl) (show PE _ _ (tTr [] (.tup [.text "less", .num 0, .num (-1)])) from (pr_tup (pr_cons pr_str (pr_cons pr_int (pr_cons pr_neg pr_nil))))))
    (pss_cons (ps_set (i := 2) sc_l_shaped_machine.nd rfl (Or.inl rfl) (pe_cal C_l_take hr (pa_cons (pv 0) (pa_cons pe_int pa_nil))))
    (pss_cons (ps_if (pt_cmpR op_eq (pv 2) pe_int (nomark _)) (pss_one (ps_ret (show PE _ _ (tTr [(1, .tup [.text "less", .num 0, .num (-1)])] (.tup [.num 1, .num 1, .tup [.tup [.tup [.tup [.tup [.text "any", .tup [.tup [.text "empty", .num 0], .tup [.text "less", .num 0, .num (-1)]]], .tup [.num (-1)], .tup [.tup [.num 0, .num (-1)]], .num 0]]]]])) from (pr_tup (pr_cons pr_int (pr_cons pr_int (pr_cons (pr_tup (pr_cons (pr_tup (pr_cons (pr_tup (pr_cons (pr_tup (pr_cons (pr_tup (pr_cons pr_str (pr_cons (pr_tup (pr_cons (pr_tup (pr_cons pr_str (pr_cons pr_int pr_nil))) (pr_cons (pr_var (pv 1) (.head _)) pr_nil))) pr_nil))) (pr_cons (pr_tup (pr_cons pr_neg pr_nil)) (pr_cons (pr_tup (pr_cons (pr_tup (pr_cons pr_int (pr_cons pr_neg pr_nil))) pr_nil)) (pr_cons pr_int pr_nil))))) pr_nil)) pr_nil)) pr_nil)) pr_nil))))))) pss_nil)
    (pss_cons (ps_if (pt_cmpR op_eq (pv 2) pe_int (nomark _)) (pss_cons (ps_set (i := 3) sc_l_shaped_machine.nd rfl (Or.inl rfl) (show PE _ _ (tTr [] (.tup [.tup [.text "all", .tup [.tup [.text "less", .num 0, .num 1], .tup [.text "less", .num (-1), .num 1]]], .tup [.num 1, .num (-1)], .tup [.tup [.num 0, .num 1]], .num 0])) from (pr_tup (pr_cons (pr_tup (pr_cons pr_str (pr_cons (pr_tup (pr_cons (pr_tup (pr_cons pr_str (pr_cons pr_int (pr_cons pr_int pr_nil)))) (pr_cons (pr_tup (pr_cons pr_str (pr_cons pr_neg (pr_cons pr_int pr_nil)))) pr_nil))) pr_nil))) (pr_cons (pr_tup (pr_cons pr_int (pr_cons pr_neg pr_nil))) (pr_cons (pr_tup (pr_cons (pr_tup (pr_cons pr_int (pr_cons pr_int pr_nil))) pr_nil)) (pr_cons pr_int pr_nil)))))))
    (pss_cons (ps_set (i := 4) sc_l_shaped_machine.nd rfl (Or.inl rfl) (show PE _ _ (tTr [] (.tup [.tup [.text "all", .tup [.tup [.text "less", .num 1, .num 0], .tup [.text "less", .num 1, .num (-1)]]], .tup [.num 1, .num (-1)], .tup [.tup [.num 1, .num 1]], .num 0])) from (pr_tup (pr_cons (pr_tup (pr_cons pr_str (pr_cons (pr_tup (pr_cons (pr_tup (pr_cons pr_str (pr_cons pr_int (pr_cons pr_int pr_nil)))) (pr_cons (pr_tup (pr_cons pr_str (pr_cons pr_int (pr_cons pr_neg pr_nil)))) pr_nil))) pr_nil))) (pr_cons (pr_tup (pr_cons pr_int (pr_cons pr_neg pr_nil))) (pr_cons (pr_tup (pr_cons (pr_tup (pr_cons pr_int (pr_cons pr_int pr_nil))) pr_nil)) (pr_cons pr_int pr_nil)))))))
    (pss_one (ps_ret (show PE _ _ (tTr [(3, .tup [.tup [.text "all", .tup [.tup [.text "less", .num 0, .num 1], .tup [.text "less", .num (-1), .num 1]]], .tup [.num 1, .num (-1)], .tup [.tup [.num 0, .num 1]], .num 0]), (4, .tup [.tup [.text "all", .tup [.tup [.text "less", .num 1, .num 0], .tup [.text "less", .num 1, .num (-1)]]], .tup [.num 1, .num (-1)], .tup [.tup [.num 1, .num 1]], .num 0])] (.tup [.num 1, .num 2, .tup [.tup [.tup [.tup [.tup [.text "all", .tup [.tup [.text "less", .num 0, .num 1], .tup [.text "less", .num (-1), .num 1]]], .tup [.num 1, .num (-1)], .tup [.tup [.num 0, .num 1]], .num 0], .tup [.tup [.text "all", .tup [.tup [.text "less", .num 1, .num 0], .tup [.text "less", .num 1, .num (-1)]]], .tup [.num 1, .num (-1)], .tup [.tup [.num 1, .num 1]], .num 0], .tup [.tup [.text "true"], .tup [.num 1, .num (-1)], .tup [], .num 0]]]]])) from (pr_tup (pr_cons pr_int (pr_cons pr_int (pr_cons (pr_tup (pr_cons (pr_tup (pr_cons (pr_tup (pr_cons (pr_var (pv 3) (.head _)) (pr_cons (pr_var (pv 4) (.tail _ (.head _))) (pr_cons (pr_tup (pr_cons (pr_tup (pr_cons pr_str pr_nil)) (pr_cons (pr_tup (pr_cons pr_int (pr_cons pr_neg pr_nil))) (pr_cons (pr_tup pr_nil) (pr_cons pr_int pr_nil))))) pr_nil)))) pr_nil)) pr_nil)) pr_nil))))))))) pss_nil)
    (pss_cons (ps_if (pt_cmpR op_eq (pv 2) pe_int (nomark _)) (pss_cons (ps_set (i := 5) sc_l_shaped_machine.nd rfl (Or.inl rfl) (show PE _ _ (tTr [] (.tup [.tup [.text "empty", .num 0], .tup [.num (-1), .num (-1)], .tup [.tup [.num 0, .num (-1)], .tup [.num 1, .num (-1)]], .num 0])) from (pr_tup (pr_cons (pr_tup (pr_cons pr_str (pr_cons pr_int pr_nil))) (pr_cons (pr_tup (pr_cons pr_neg (pr_cons pr_neg pr_nil))) (pr_cons (pr_tup (pr_cons (pr_tup (pr_cons pr_int (pr_cons pr_neg pr_nil))) (pr_cons (pr_tup (pr_cons pr_int (pr_cons pr_neg pr_nil))) pr_nil))) (pr_cons pr_int pr_nil)))))))
    (pss_one (ps_ret (show PE _ _ (tTr [(5, .tup [.tup [.text "empty", .num 0], .tup [.num (-1), .num (-1)], .tup [.tup [.num 0, .num (-1)], .tup [.num 1, .num (-1)]], .num 0])] (.tup [.num 1, .num 2, .tup [.tup [.tup [.tup [.tup [.text "empty", .num 0], .tup [.num (-1), .num (-1)], .tup [.tup [.num 0, .num (-1)], .tup [.num 1, .num (-1)]], .num 0], .tup [.tup [.text "less", .num (-1), .num 0], .tup [.num (-1), .num 1], .tup [.tup [.num 0, .num (-1)], .tup [.num 1, .num 1]], .num 0], .tup [.tup [.text "less", .num 1, .num (-1)], .tup [.num 0, .num (-1)], .tup [.tup [.num 0, .num 0], .tup [.num 1, .num (-1)]], .num 0]]]]])) from (pr_tup (pr_cons pr_int (pr_cons pr_int (pr_cons (pr_tup (pr_cons (pr_tup (pr_cons (pr_tup (pr_cons (pr_var (pv 5) (.head _)) (pr_cons (pr_tup (pr_cons (pr_tup (pr_cons pr_str (pr_cons pr_neg (pr_cons pr_int pr_nil)))) (pr_cons (pr_tup (pr_cons pr_neg (pr_cons pr_int pr_nil))) (pr_cons (pr_tup (pr_cons (pr_tup (pr_cons pr_int (pr_cons pr_neg pr_nil))) (pr_cons (pr_tup (pr_cons pr_int (pr_cons pr_int pr_nil))) pr_nil))) (pr_cons pr_int pr_nil))))) (pr_cons (pr_tup (pr_cons (pr_tup (pr_cons pr_str (pr_cons pr_int (pr_cons pr_neg pr_nil)))) (pr_cons (pr_tup (pr_cons pr_int (pr_cons pr_neg pr_nil))) (pr_cons (pr_tup (pr_cons (pr_tup (pr_cons pr_int (pr_cons pr_int pr_nil))) (pr_cons (pr_tup (pr_cons pr_int (pr_cons pr_neg pr_nil))) pr_nil))) (pr_cons pr_int pr_nil))))) pr_nil)))) pr_nil)) pr_nil)) pr_nil)))))))) pss_nil)
    (pss_cons (ps_if (pt_cmpR op_eq (pv 2) pe_int (nomark _)) (pss_cons (ps_set (i := 5) sc_l_shaped_machine.nd rfl (Or.inl rfl) (show PE _ _ (tTr [] (.tup [.tup [.text "empty", .num 0], .tup [.num (-1), .num (-2)], .tup [.tup [.num 0, .num (-1)]], .num 0])) from (pr_tup (pr_cons (pr_tup (pr_cons pr_str (pr_cons pr_int pr_nil))) (pr_cons (pr_tup (pr_cons pr_neg (pr_cons pr_neg pr_nil))) (pr_cons (pr_tup (pr_cons (pr_tup (pr_cons pr_int (pr_cons pr_neg pr_nil))) pr_nil)) (pr_cons pr_int pr_nil)))))))
    (pss_cons (ps_set (i := 6) sc_l_shaped_machine.nd rfl (Or.inl rfl) (show PE _ _ (tTr [] (.tup [.tup [.text "any", .tup [.tup [.text "empty", .num 1], .tup [.text "less", .num 1, .num (-1)]]], .tup [.num 0, .num (-1)], .tup [.tup [.num 0, .num 0], .tup [.num 1, .num (-1)]], .num 0])) from (pr_tup (pr_cons (pr_tup (pr_cons pr_str (pr_cons (pr_tup (pr_cons (pr_tup (pr_cons pr_str (pr_cons pr_int pr_nil))) (pr_cons (pr_tup (pr_cons pr_str (pr_cons pr_int (pr_cons pr_neg pr_nil)))) pr_nil))) pr_nil))) (pr_cons (pr_tup (pr_cons pr_int (pr_cons pr_neg pr_nil))) (pr_cons (pr_tup (pr_cons (pr_tup (pr_cons pr_int (pr_cons pr_int pr_nil))) (pr_cons (pr_tup (pr_cons pr_int (pr_cons pr_neg pr_nil))) pr_nil))) (pr_cons pr_int pr_nil)))))))
    (pss_one (ps_ret (show PE _ _ (tTr [(5, .tup [.tup [.text "empty", .num 0], .tup [.num (-1), .num (-2)], .tup [.tup [.num 0, .num (-1)]], .num 0]), (6, .tup [.tup [.text "any", .tup [.tup [.text "empty", .num 1], .tup [.text "less", .num 1, .num (-1)]]], .tup [.num 0, .num (-1)], .tup [.tup [.num 0, .num 0], .tup [.num 1, .num (-1)]], .num 0]), (1, .tup [.text "less", .num 0, .num (-1)])] (.tup [.num 1, .num 2, .tup [.tup [.tup [.tup [.tup [.text "empty", .num 0], .tup [.num (-1), .num (-2)], .tup [.tup [.num 0, .num (-1)]], .num 0], .tup [.tup [.text "less", .num 0, .num (-1)], .tup [.num (-1), .num 0], .tup [.tup [.num 0, .num (-1)], .tup [.num 1, .num 0]], .num 0], .tup [.tup [.text "any", .tup [.tup [.text "empty", .num 1], .tup [.text "less", .num 1, .num (-1)]]], .tup [.num 0, .num (-1)], .tup [.tup [.num 0, .num 0], .tup [.num 1, .num (-1)]], .num 0], .tup [.tup [.text "true"], .tup [.num 0, .num 1], .tup [.tup [.num 1, .num 1]], .num 0]]]]])) from (pr_tup (pr_cons pr_int (pr_cons pr_int (pr_cons (pr_tup (pr_cons (pr_tup (pr_cons (pr_tup (pr_cons (pr_var (pv 5) (.head _)) (pr_cons (pr_tup (pr_cons (pr_var (pv 1) (.tail _ (.tail _ (.head _)))) (pr_cons (pr_tup (pr_cons pr_neg (pr_cons pr_int pr_nil))) (pr_cons (pr_tup (pr_cons (pr_tup (pr_cons pr_int (pr_cons pr_neg pr_nil))) (pr_cons (pr_tup (pr_cons pr_int (pr_cons pr_int pr_nil))) pr_nil))) (pr_cons pr_int pr_nil))))) (pr_cons (pr_var (pv 6) (.tail _ (.head _))) (pr_cons (pr_tup (pr_cons (pr_tup (pr_cons pr_str pr_nil)) (pr_cons (pr_tup (pr_cons pr_int (pr_cons pr_int pr_nil))) (pr_cons (pr_tup (pr_cons (pr_tup (pr_cons pr_int (pr_cons pr_int pr_nil))) pr_nil)) (pr_cons pr_int pr_nil))))) pr_nil))))) pr_nil)) pr_nil)) pr_nil))))))))) pss_nil)
    (pss_cons (ps_if (pt_cmpR op_eq (pv 2) pe_int (nomark _)) (pss_one (ps_ret (show PE _ _ (tTr [] (.tup [.num 1, .num 2, .tup [.tup [.tup [.tup [.tup [.text "empty", .num 1], .tup [.num (-1), .num (-1)], .tup [], .num 0], .tup [.tup [.text "less", .num 1, .num (-1)], .tup [.num 0, .num (-1)], .tup [], .num 0], .tup [.tup [.text "true"], .tup [.num (-1), .num (-1)], .tup [.tup [.num 0, .num 0]], .num 0]]]]])) from (pr_tup (pr_cons pr_int (pr_cons pr_int (pr_cons (pr_tup (pr_cons (pr_tup (pr_cons (pr_tup (pr_cons (pr_tup (pr_cons (pr_tup (pr_cons pr_str (pr_cons pr_int pr_nil))) (pr_cons (pr_tup (pr_cons pr_neg (pr_cons pr_neg pr_nil))) (pr_cons (pr_tup pr_nil) (pr_cons pr_int pr_nil))))) (pr_cons (pr_tup (pr_cons (pr_tup (pr_cons pr_str (pr_cons pr_int (pr_cons pr_neg pr_nil)))) (pr_cons (pr_tup (pr_cons pr_int (pr_cons pr_neg pr_nil))) (pr_cons (pr_tup pr_nil) (pr_cons pr_int pr_nil))))) (pr_cons (pr_tup (pr_cons (pr_tup (pr_cons pr_str pr_nil)) (pr_cons (pr_tup (pr_cons pr_neg (pr_cons pr_neg pr_nil))) (pr_cons (pr_tup (pr_cons (pr_tup (pr_cons pr_int (pr_cons pr_int pr_nil))) pr_nil)) (pr_cons pr_int pr_nil))))) pr_nil)))) pr_nil)) pr_nil)) pr_nil))))))) pss_nil)
    (pss_cons (ps_set (i := 7) sc_l_shaped_machine.nd rfl (Or.inl rfl) (show PE _ _ (tTr [] (.tup [.text "all", .tup [.tup [.text "less", .num 0, .num (-1)], .tup [.text "less", .num (-1), .num 1]]])) from (pr_tup (pr_cons pr_str (pr_cons (pr_tup (pr_cons (pr_tup (pr_cons pr_str (pr_cons pr_int (pr_cons pr_neg pr_nil)))) (pr_cons (pr_tup (pr_cons pr_str (pr_cons pr_neg (pr_cons pr_int pr_nil)))) pr_nil))) pr_nil)))))
    (pss_cons (ps_set (i := 8) sc_l_shaped_machine.nd rfl (Or.inl rfl) (show PE _ _ (tTr [(1, .tup [.text "less", .num 0, .num (-1)])] (.tup [.tup [.tup [.tup [.text "empty", .num 0], .tup [.num (-1), .num (-2)], .tup [], .num 0], .tup [.tup [.text "less", .num 0, .num (-1)], .tup [.num 0, .num (-1)], .tup [], .num 1], .tup [.tup [.text "true"], .tup [.num (-1), .num (-2)], .tup [], .num 0]]])) from (pr_tup (pr_cons (pr_tup (pr_cons (pr_tup (pr_cons (pr_tup (pr_cons pr_str (pr_cons pr_int pr_nil))) (pr_cons (pr_tup (pr_cons pr_neg (pr_cons pr_neg pr_nil))) (pr_cons (pr_tup pr_nil) (pr_cons pr_int pr_nil))))) (pr_cons (pr_tup (pr_cons (pr_var (pv 1) (.head _)) (pr_cons (pr_tup (pr_cons pr_int (pr_cons pr_neg pr_nil))) (pr_cons (pr_tup pr_nil) (pr_cons pr_int pr_nil))))) (pr_cons (pr_tup (pr_cons (pr_tup (pr_cons pr_str pr_nil)) (pr_cons (pr_tup (pr_cons pr_neg (pr_cons pr_neg pr_nil))) (pr_cons (pr_tup pr_nil) (pr_cons pr_int pr_nil))))) pr_nil)))) pr_nil))))
    (pss_one (ps_ret (show PE _ _ (tTr [(8, .tup [.tup [.tup [.tup [.text "empty", .num 0], .tup [.num (-1), .num (-2)], .tup [], .num 0], .tup [.tup [.text "less", .num 0, .num (-1)], .tup [.num 0, .num (-1)], .tup [], .num 1], .tup [.tup [.text "true"], .tup [.num (-1), .num (-2)], .tup [], .num 0]]]), (7, .tup [.text "all", .tup [.tup [.text "less", .num 0, .num (-1)], .tup [.text "less", .num (-1), .num 1]]])] (.tup [.num 1, .num 2, .tup [.tup [.tup [.tup [.tup [.text "empty", .num 0], .tup [.num (-1), .num (-2)], .tup [], .num 0], .tup [.tup [.text "less", .num 0, .num (-1)], .tup [.num 0, .num (-1)], .tup [], .num 1], .tup [.tup [.text "true"], .tup [.num (-1), .num (-2)], .tup [], .num 0]]], .tup [.tup [.tup [.tup [.text "all", .tup [.tup [.text "less", .num 0, .num (-1)], .tup [.text "less", .num (-1), .num 1]]], .tup [.num 0, .num (-1)], .tup [.tup [.num 0, .num (-1)]], .num 1], .tup [.tup [.text "less", .num (-1), .num 0], .tup [.num (-1), .num 1], .tup [], .num 1]]]]])) from (pr_tup (pr_cons pr_int (pr_cons pr_int (pr_cons (pr_tup (pr_cons (pr_var (pv 8) (.head _)) (pr_cons (pr_tup (pr_cons (pr_tup (pr_cons (pr_tup (pr_cons (pr_var (pv 7) (.tail _ (.head _))) (pr_cons (pr_tup (pr_cons pr_int (pr_cons pr_neg pr_nil))) (pr_cons (pr_tup (pr_cons (pr_tup (pr_cons pr_int (pr_cons pr_neg pr_nil))) pr_nil)) (pr_cons pr_int pr_nil))))) (pr_cons (pr_tup (pr_cons (pr_tup (pr_cons pr_str (pr_cons pr_neg (pr_cons pr_int pr_nil)))) (pr_cons (pr_tup (pr_cons pr_neg (pr_cons pr_int pr_nil))) (pr_cons (pr_tup pr_nil) (pr_cons pr_int pr_nil))))) pr_nil))) pr_nil)) pr_nil))) pr_nil)))))))))))))))), ?_⟩
  wp_walk using u_tr
  refine ⟨vs0, fun up H1 s1 rup => take_of (hd.up s1) (by decide) fun kd H2 k0 k6 f2 => ?_⟩
  have F2 : Fr d H H2 := (Fr.of hd s1).trans f2
  have rup2 := f2.rp rup
  wp_walk using u_c
  refine ite2 (fun h => ?_) fun n0 => ite2 (fun h => ?_) fun n1 => ite2 (fun h => ?_) fun n2 => ite2 (fun h => ?_) fun n3 => ite2 (fun h => ?_) fun n4 => ?_
  · exact ⟨(fun p hp => by simp only [List.mem_cons, List.not_mem_nil, or_false] at hp; rcases hp with rfl <;> exact ⟨_, rfl, by first | exact rup2⟩), fun y H3 s3 r3 => q' sm0 sm0_ok _ _ y F2 s3 r3⟩
  · exact ⟨vs0, fun a H3 s3 ra => ⟨vs0, fun b H4 s4 rb => ⟨(fun p hp => by simp only [List.mem_cons, List.not_mem_nil, or_false] at hp; rcases hp with rfl | rfl <;> exact ⟨_, rfl, by first | exact (ra.up s4) | exact rb⟩), fun y H5 s5 r5 => q' sm1 sm1_ok _ _ y F2 ((s3.trans s4).trans s5) r5⟩⟩⟩
  · exact ⟨vs0, fun a H3 s3 ra => ⟨(fun p hp => by simp only [List.mem_cons, List.not_mem_nil, or_false] at hp; rcases hp with rfl <;> exact ⟨_, rfl, by first | exact ra⟩), fun y H5 s5 r5 => q' sm2 sm2_ok _ _ y F2 (s3.trans s5) r5⟩⟩
  · exact ⟨vs0, fun a H3 s3 ra => ⟨vs0, fun b H4 s4 rb => ⟨(fun p hp => by simp only [List.mem_cons, List.not_mem_nil, or_false] at hp; rcases hp with rfl | rfl | rfl <;> exact ⟨_, rfl, by first | exact (ra.up s4) | exact rb | exact ((rup2.up s3).up s4)⟩), fun y H5 s5 r5 => q' sm3 sm3_ok _ _ y F2 ((s3.trans s4).trans s5) r5⟩⟩⟩
  · exact ⟨vs0, fun y H5 s5 r5 => q' sm4 sm4_ok _ _ y F2 s5 r5⟩
  · exact ⟨vs0, fun a H3 s3 ra => ⟨(fun p hp => by simp only [List.mem_cons, List.not_mem_nil, or_false] at hp; rcases hp with rfl <;> exact ⟨_, rfl, by first | exact (rup2.up s3)⟩), fun b H4 s4 rb => ⟨(fun p hp => by simp only [List.mem_cons, List.not_mem_nil, or_false] at hp; rcases hp with rfl | rfl <;> exact ⟨_, rfl, by first | exact (ra.up s4) | exact rb⟩), fun y H5 s5 r5 => q' sm5 sm5_ok _ _ y F2 ((s3.trans s4).trans s5) r5⟩⟩⟩

end
section
variable {P : Program} {w : World} {K : PySem.W.Frag} {mg : PySem.Str → Option Value} {base : Heap}

abbrev N_l_changed : List PySem.Str := ["_law_draws_here", "_law_machine_here", "_law_standing", "_law_tag", "_law_cases", "_law_at_here", "_law_kind", "_law_case_here"]
theorem sc_l_changed : FnScope N_l_changed ["_law_draws_here", "_law_machine_here"] (defScope s_l_changed) := ⟨rfl, rfl, rfl, by decide +kernel, rfl, by decide +kernel, by decide +kernel⟩
theorem c_l_changed (D : Df K mg "_law_changed" s_l_changed) (T : Tx K mg) (C_l_take : Cal P w K mg base "_law_take" 1 ["_law_draws_here", "_law_many_here"] spTake) (C_l_drawn_case : Cal P w K mg base "_law_drawn_case" 2 ["_law_draws_here", "_law_registers", "_law_standings", "_law_condition_here"] spDcase) (C_l_condition : Cal P w K mg base "_law_condition" 4 ["_law_draws_here", "_law_registers", "_law_depth"] (spCnd 2 fun _ => True)) (C_l_with_case : Cal P w K mg base "_law_with_case" 1 ["_law_machine_here", "_law_standing", "_law_tag", "_law_cases"] spPut) : Cal P w K mg base "_law_changed" 5 ["_law_draws_here", "_law_machine_here"] spChg := by
  refine D.cal sc_l_changed (by rintro vs H Q E ⟨_, _, _, _, rfl, _⟩; rfl) (fun _ _ _ _ _ _ us hl => match us, hl with | [_, _], _ => rfl) fun f cdv A outer s H vs Q E hr h => ?_
  have hu : (A.deeper (envOfC "_law_changed" (defScope s_l_changed) s.heap.objs.size f cdv)).units + 64 < cLine := hr.units
  obtain ⟨b, d, m, x, rfl, hb, okm, hx, hd, q⟩ := h
  have ok := okm.ok
  have h3 := ok.s3
  have h6 := ok.t2
  have h1 := ok.s1
  have ht1 := ok.t1
  refine ⟨_, (pss_cons (ps_set (i := 2) sc_l_changed.nd rfl (Or.inl rfl) (pe_cal C_l_take hr (pa_cons (pv 0) (pa_cons (pe_callB cr_lenT (by rfl) T.nlen (by decide +kernel) (pa_cons (pe_ix ixT (pv 1) pe_int (fun _ _ => rfl)) pa_nil)) pa_nil))))
    (pss_cons (ps_set (i := 3) sc_l_changed.nd rfl (Or.inl rfl) (pe_cal C_l_take hr (pa_cons (pv 0) (pa_cons (pe_ix ixT (pv 1) pe_int (fun _ _ => rfl)) pa_nil))))
    (pss_cons (ps_set (i := 4) sc_l_changed.nd rfl (Or.inl rfl) (pe_callTy cr_lstT (by rfl) T.nlist (by decide +kernel) (pa_cons (pe_ix ixT (pe_ix ixT (pe_ix ixT (pv 1) pe_int (fun _ _ => rfl)) (pv 2) (fun _ _ => rfl)) (pv 3) (fun _ _ => rfl)) pa_nil)))
    (pss_cons (ps_set (i := 5) sc_l_changed.nd rfl (Or.inl rfl) (pe_cal C_l_take hr (pa_cons (pv 0) (pa_cons (pe_op op_add (pe_callB cr_lenL (by rfl) T.nlen (by decide +kernel) (pa_cons (pv 4) pa_nil)) pe_int) pa_nil))))
    (pss_cons (ps_set (i := 6) sc_l_changed.nd rfl (Or.inl rfl) (pe_cal C_l_take hr (pa_cons (pv 0) (pa_cons pe_int pa_nil))))
    (pss_cons (ps_set (i := 7) sc_l_changed.nd rfl (Or.inl rfl) (pe_cal C_l_drawn_case hr (pa_cons (pv 0) (pa_cons (pe_ix ixT (pv 1) pe_int (fun _ _ => rfl)) (pa_cons (pe_callB cr_lenT (by rfl) T.nlen (by decide +kernel) (pa_cons (pe_ix ixT (pv 1) pe_int (fun _ _ => rfl)) pa_nil)) (pa_cons (pe_cal C_l_condition hr (pa_cons (pv 0) (pa_cons (pe_ix ixT (pv 1) pe_int (fun _ _ => rfl)) (pa_cons pe_int pa_nil)))) pa_nil))))))
    (pss_cons (ps_if (PW.pt (pw_or (pt_cmpR op_eq (pv 5) (pe_callB cr_lenL (by rfl) T.nlen (by decide +kernel) (pa_cons (pv 4) pa_nil)) (nomark _)) (pw_or1 (pt_cmpR op_eq (pv 6) pe_int (nomark _))))) (pss_one (ps_expr (pe_lm F.slot_list_insert F.type_list_insert mt_insL (pv 4) (pa_cons (pv 5) (pa_cons (pv 7) pa_nil))))) (pss_one (ps_if (pt_cmpR op_eq (pv 6) pe_int (nomark _)) (pss_one (ps_expr (pe_lm F.slot_list_pop F.type_list_pop mt_popI (pv 4) (pa_cons (pv 5) pa_nil)))) (pss_one (ps_asg (pe_op op_catX (pe_op op_catX (pe_slice sl_X (pe_ix ixL (pv 4) (pv 5) (fun _ _ => rfl)) po_none (po_some (pe_op op_sub (pv 6) pe_int))) (pe_tup (pa_cons (pe_ix ixT (pv 7) (pe_op op_sub (pv 6) pe_int) (fun _ _ => rfl)) pa_nil))) (pe_slice sl_X (pe_ix ixL (pv 4) (pv 5) (fun _ _ => rfl)) (po_some (pv 6)) po_none)) (pg_sub (pv 4) (pv 5) set_list))))))
    (pss_one (ps_ret (pe_cal C_l_with_case hr (pa_cons (pv 1) (pa_cons (pv 2) (pa_cons (pv 3) (pa_cons (pv 4) pa_nil)))))))))))))), ?_⟩
  obtain ⟨pm, am, rows, rfl, m1, m2, m3⟩ := rp_m hx
  have hml := m3.length
  rw [List.length_map] at hml
  wp_walk using m1, m2
  refine take_of hd (by omega) fun s1 H1 s0 sl f1 => ?_
  obtain ⟨si, rfl⟩ : ∃ k : Nat, s1 = k := ⟨s1.toNat, by omega⟩
  have hsi : si < m.steps.length := by omega
  have t1 := f1.tub
  wp_walk using t1 _ _ m1
  refine take_of f1.d1 (by omega) fun tt H2 t0 tl f2 => ?_
  obtain ⟨ti, rfl⟩ : ∃ k : Nat, tt = k := ⟨tt.toNat, by omega⟩
  have hti : ti < m.tags := by omega
  have F2 := f1.trans f2
  have M1 := F2.tub _ _ m1
  have M2 := F2.tub _ _ m2
  obtain ⟨p, row, p2, cs, r1, r2, r3, r4, r5, r6⟩ := rp_cases ok hsi hti (F2.rps m3)
  have hcb : (cases m si ti).length ≤ b := by
    have hrl := (ok.rows _ (List.getElem_mem hsi)).1
    have ht' : ti < m.steps[si].length := by omega
    rw [cases_at (List.getElem?_eq_getElem hsi) (List.getElem?_eq_getElem ht')]
    exact okm.few _ (List.getElem_mem hsi) _ (List.getElem_mem ht')
  have hcl := r5.length
  rw [List.length_map] at hcl
  wp_walk using M1, M2, atI_z, r1, r2, r3, r4
  refine new_lst1 fun lc H3 h3n s3 e3 => ?_
  have nlc : lc ≠ d := F2.d1.fresh h3n
  have lc0 : H lc = none := F2.back h3n
  have F3 := F2.same s3
  wp_walk using e3
  refine take_of F3.d1 (by omega) fun ai H4 a0 al f4 => ?_
  obtain ⟨ai, rfl⟩ : ∃ k : Nat, ai = k := ⟨ai.toNat, by omega⟩
  wp_walk using u_c
  refine take_of f4.d1 (by decide) fun kd H5 k0 k6 f5 => ?_
  have F5 := (F3.trans f4).trans f5
  wp_walk using F5.tub _ _ m1, F5.tub _ _ m2
  refine ⟨d, m.regs, rfl, ok.r2, F5.d1, fun c y H6 hc _ f6 w6 => ?_⟩
  have F6 := F5.trans f6
  refine ⟨d, m.regs, rows.length, c, y, rfl, ok.r2, by omega, hc, w6, F6.d1, fun k y2 H7 hk f7 w7 => ?_⟩
  have F7 := F6.trans f7
  have f47 := ((f4.trans f5).trans f6).trans f7
  have e7 : H7 lc = some (.lst cs) := f47.sb _ _ e3 nlc
  have R7 : Rps H7 ((cases m si ti).map eK) cs := f47.rps (r5.up s3)
  rw [hml] at hk
  have fin : ∀ (ncs : List Cs) (xs : List V) (H8 : Hp), Fr d H H8 → H8 lc = some (.lst xs) → Rps H8 (ncs.map eK) xs → okR m.regs m.steps.length (b + 1) ncs →
      spPut [.ref pm, .int si, .int ti, .ref lc] H8 Q E0 := fun ncs xs H8 f8 e8 r8 o8 =>
    ⟨m, si, ti, ncs, _, lc, xs, rfl, ok, hsi, hti, f8.rp hx, e8, r8, fun y3 H9 s9 r9 => q _ y3 H9 (putC_ok okm hsi hti (by omega) (by omega) o8) (f8.same s9) r9⟩
  have old := r6.2
  have ins : rInsL (.ref lc) [.int (ai : Int), y2] H7 fun x H1 => spPut [.ref pm, .int si, .int ti, .ref lc] H1 Q E0 := by
    refine ⟨lc, rfl, _, _, rfl, cs, e7, ⟨by rw [sizeLine_eq]; omega, by omega, by omega⟩, ?_⟩
    rw [Int.toNat_natCast]
    refine fin ((cases m si ti).take ai ++ [k] ++ (cases m si ti).drop ai) _ _ (F7.new lc0) upd_same ?_ ⟨?_, fun c hc => ?_⟩
    · rw [List.map_append, List.map_append, List.map_take, List.map_drop]
      exact Rps.ts (tub_lst e7) _ _ (((R7.take ai).app (Rps.one w7)).app (R7.drop ai))
    · simp only [List.length_append, List.length_take, List.length_drop, List.length_cons, List.length_nil]
      omega
    · rcases List.mem_append.mp hc with h | h
      · rcases List.mem_append.mp h with h | h
        · exact old c (List.mem_of_mem_take h)
        · rw [List.mem_singleton.mp h]
          exact hk
      · exact old c (List.mem_of_mem_drop h)
  wp_walk using e7
  refine ite2 (fun _ => ins) fun hne => ite2 (fun _ => ins) fun hk0 => ite2 (fun hk5 => ?_) fun hk5 => ?_
  · have hai : ai < cs.length := by omega
    refine ⟨lc, rfl, _, rfl, cs, e7, ai, cs[ai], ⟨by omega, by omega, ?_, List.getElem?_eq_getElem hai⟩, ?_⟩
    · exact seqIndex_of (by omega) (by omega)
    · refine fin ((cases m si ti).eraseIdx ai) _ _ (F7.new lc0) upd_same ?_ ⟨?_, fun c hc => ?_⟩
      · rw [← erase_map]
        exact Rps.ts (tub_lst e7) _ _ (Rps.erase ai R7)
      · have := List.length_eraseIdx_le (cases m si ti) ai
        omega
      · exact old c (List.mem_of_mem_eraseIdx hc)
  · have hai : ai < (cases m si ti).length := by omega
    obtain ⟨kk, hkk⟩ : ∃ kk, (cases m si ti)[ai]? = some kk := ⟨_, List.getElem?_eq_getElem hai⟩
    have okk := old kk (List.mem_of_getElem? hkk)
    obtain ⟨x0, hx1, hx2⟩ := R7.get (i := ai) (k := eK kk) (by rw [List.getElem?_map, hkk]; rfl)
    obtain ⟨q0, u0, u1, u2, u3, rfl, hq, g0, g1, g2, g3⟩ := rp_4 hx2
    obtain ⟨q1, v0, v1, v2, v3, rfl, hq1, k0', k1, k2, k3⟩ := rp_4 w7
    have kd4 : kd = 1 ∨ kd = 2 ∨ kd = 3 ∨ kd = 4 := by omega
    rcases kd4 with rfl | rfl | rfl | rfl
    · wp_walk using atI_z, hx1, hq, hq1, (show ((1 : Int) - 1) = 0 from rfl), (show cutV [u0, u1, u2, u3] none (some 0) = [] from rfl)
      refine new_x (ks := []) rfl fun z1 H8 s8 w8 => ?_
      wp_walk using s8 _ _ hq1
      refine new_tup (ks := [eC k.cond]) (Rps.one (k0'.up s8)) (by simp) fun z2 H9 s9 w9 => ?_
      obtain ⟨a1, y1, rfl, f1', g1'⟩ := w8
      obtain ⟨a2, y2, rfl, f2', g2'⟩ := w9
      have ly1 := g1'.length
      have ly2 := g2'.length
      simp only [List.length_cons, List.length_nil] at ly1 ly2
      wp_walk using s9 _ _ f1', f2'
      refine ⟨by rw [sizeLine_eq]; omega, new_x ((g1'.up s9).app g2') fun z3 H10 s10 w10 => ?_⟩
      have S10 := (s8.trans s9).trans s10
      wp_walk using S10 _ _ e7, atI_z, hx1, S10 _ _ hq, (show cutV [u0, u1, u2, u3] (some 1) none = [u1, u2, u3] from rfl)
      refine new_x (ks := [.tup (kk.moves.map NestedKey.num), .tup (kk.says.map eP), .num kk.nxt]) (rps_3 (g1.up S10) (g2.up S10) (g3.up S10)) fun z4 H11 s11 w11 => ?_
      obtain ⟨a3, y3, rfl, f3', g3'⟩ := w10
      obtain ⟨a4, y4, rfl, f4', g4'⟩ := w11
      have ly3 := g3'.length
      have ly4 := g4'.length
      simp only [List.length_append, List.length_cons, List.length_nil] at ly3 ly4
      wp_walk using s11 _ _ f3', f4'
      refine ⟨by rw [sizeLine_eq]; omega, new_x ((g3'.up s11).app g4') fun z5 H12 s12 w12 => ?_⟩
      have S12 := (S10.trans s11).trans s12
      wp_walk using S12 _ _ e7, u_gsub
      refine ⟨lc, cs, (ai : Int), ai, rfl, rfl, S12 _ _ e7, ?_, ?_⟩
      · unfold ixN
        rw [if_pos (by omega), if_pos (by omega)]
        rfl
      · refine fin ((cases m si ti).set ai ⟨k.cond, kk.moves, kk.says, kk.nxt⟩) _ _ ((F7.same S12).new lc0) upd_same ?_ ⟨?_, fun c hc => ?_⟩
        · rw [List.map_set]
          exact Rps.ts (tub_lst (S12 _ _ e7)) _ _ (Rps.set (k := eK ⟨k.cond, kk.moves, kk.says, kk.nxt⟩) w12 ai (R7.up S12))
        · rw [List.length_set]
          omega
        · rcases List.mem_or_eq_of_mem_set hc with h | h
          · exact old c h
          · rw [h]
            exact ⟨hk.cond, okk.len, okk.moves, okk.slen, okk.says, okk.nxt⟩
    · wp_walk using atI_z, hx1, hq, hq1, (show ((2 : Int) - 1) = 1 from rfl), (show cutV [u0, u1, u2, u3] none (some 1) = [u0] from rfl)
      refine new_x (ks := [eC kk.cond]) (Rps.one g0) fun z1 H8 s8 w8 => ?_
      wp_walk using s8 _ _ hq1
      refine new_tup (ks := [.tup (k.moves.map NestedKey.num)]) (Rps.one (k1.up s8)) (by simp) fun z2 H9 s9 w9 => ?_
      obtain ⟨a1, y1, rfl, f1', g1'⟩ := w8
      obtain ⟨a2, y2, rfl, f2', g2'⟩ := w9
      have ly1 := g1'.length
      have ly2 := g2'.length
      simp only [List.length_cons, List.length_nil] at ly1 ly2
      wp_walk using s9 _ _ f1', f2'
      refine ⟨by rw [sizeLine_eq]; omega, new_x ((g1'.up s9).app g2') fun z3 H10 s10 w10 => ?_⟩
      have S10 := (s8.trans s9).trans s10
      wp_walk using S10 _ _ e7, atI_z, hx1, S10 _ _ hq, (show cutV [u0, u1, u2, u3] (some 2) none = [u2, u3] from rfl)
      refine new_x (ks := [.tup (kk.says.map eP), .num kk.nxt]) (rps_2 (g2.up S10) (g3.up S10)) fun z4 H11 s11 w11 => ?_
      obtain ⟨a3, y3, rfl, f3', g3'⟩ := w10
      obtain ⟨a4, y4, rfl, f4', g4'⟩ := w11
      have ly3 := g3'.length
      have ly4 := g4'.length
      simp only [List.length_append, List.length_cons, List.length_nil] at ly3 ly4
      wp_walk using s11 _ _ f3', f4'
      refine ⟨by rw [sizeLine_eq]; omega, new_x ((g3'.up s11).app g4') fun z5 H12 s12 w12 => ?_⟩
      have S12 := (S10.trans s11).trans s12
      wp_walk using S12 _ _ e7, u_gsub
      refine ⟨lc, cs, (ai : Int), ai, rfl, rfl, S12 _ _ e7, ?_, ?_⟩
      · unfold ixN
        rw [if_pos (by omega), if_pos (by omega)]
        rfl
      · refine fin ((cases m si ti).set ai ⟨kk.cond, k.moves, kk.says, kk.nxt⟩) _ _ ((F7.same S12).new lc0) upd_same ?_ ⟨?_, fun c hc => ?_⟩
        · rw [List.map_set]
          exact Rps.ts (tub_lst (S12 _ _ e7)) _ _ (Rps.set (k := eK ⟨kk.cond, k.moves, kk.says, kk.nxt⟩) w12 ai (R7.up S12))
        · rw [List.length_set]
          omega
        · rcases List.mem_or_eq_of_mem_set hc with h | h
          · exact old c h
          · rw [h]
            exact ⟨okk.cond, hk.len, hk.moves, okk.slen, okk.says, okk.nxt⟩
    · wp_walk using atI_z, hx1, hq, hq1, (show ((3 : Int) - 1) = 2 from rfl), (show cutV [u0, u1, u2, u3] none (some 2) = [u0, u1] from rfl)
      refine new_x (ks := [eC kk.cond, .tup (kk.moves.map NestedKey.num)]) (rps_2 g0 g1) fun z1 H8 s8 w8 => ?_
      wp_walk using s8 _ _ hq1
      refine new_tup (ks := [.tup (k.says.map eP)]) (Rps.one (k2.up s8)) (by simp) fun z2 H9 s9 w9 => ?_
      obtain ⟨a1, y1, rfl, f1', g1'⟩ := w8
      obtain ⟨a2, y2, rfl, f2', g2'⟩ := w9
      have ly1 := g1'.length
      have ly2 := g2'.length
      simp only [List.length_cons, List.length_nil] at ly1 ly2
      wp_walk using s9 _ _ f1', f2'
      refine ⟨by rw [sizeLine_eq]; omega, new_x ((g1'.up s9).app g2') fun z3 H10 s10 w10 => ?_⟩
      have S10 := (s8.trans s9).trans s10
      wp_walk using S10 _ _ e7, atI_z, hx1, S10 _ _ hq, (show cutV [u0, u1, u2, u3] (some 3) none = [u3] from rfl)
      refine new_x (ks := [.num kk.nxt]) (Rps.one (g3.up S10)) fun z4 H11 s11 w11 => ?_
      obtain ⟨a3, y3, rfl, f3', g3'⟩ := w10
      obtain ⟨a4, y4, rfl, f4', g4'⟩ := w11
      have ly3 := g3'.length
      have ly4 := g4'.length
      simp only [List.length_append, List.length_cons, List.length_nil] at ly3 ly4
      wp_walk using s11 _ _ f3', f4'
      refine ⟨by rw [sizeLine_eq]; omega, new_x ((g3'.up s11).app g4') fun z5 H12 s12 w12 => ?_⟩
      have S12 := (S10.trans s11).trans s12
      wp_walk using S12 _ _ e7, u_gsub
      refine ⟨lc, cs, (ai : Int), ai, rfl, rfl, S12 _ _ e7, ?_, ?_⟩
      · unfold ixN
        rw [if_pos (by omega), if_pos (by omega)]
        rfl
      · refine fin ((cases m si ti).set ai ⟨kk.cond, kk.moves, k.says, kk.nxt⟩) _ _ ((F7.same S12).new lc0) upd_same ?_ ⟨?_, fun c hc => ?_⟩
        · rw [List.map_set]
          exact Rps.ts (tub_lst (S12 _ _ e7)) _ _ (Rps.set (k := eK ⟨kk.cond, kk.moves, k.says, kk.nxt⟩) w12 ai (R7.up S12))
        · rw [List.length_set]
          omega
        · rcases List.mem_or_eq_of_mem_set hc with h | h
          · exact old c h
          · rw [h]
            exact ⟨okk.cond, okk.len, okk.moves, hk.slen, hk.says, okk.nxt⟩
    · wp_walk using atI_z, hx1, hq, hq1, (show ((4 : Int) - 1) = 3 from rfl), (show cutV [u0, u1, u2, u3] none (some 3) = [u0, u1, u2] from rfl)
      refine new_x (ks := [eC kk.cond, .tup (kk.moves.map NestedKey.num), .tup (kk.says.map eP)]) (rps_3 g0 g1 g2) fun z1 H8 s8 w8 => ?_
      wp_walk using s8 _ _ hq1
      refine new_tup (ks := [.num k.nxt]) (Rps.one (k3.up s8)) (by simp) fun z2 H9 s9 w9 => ?_
      obtain ⟨a1, y1, rfl, f1', g1'⟩ := w8
      obtain ⟨a2, y2, rfl, f2', g2'⟩ := w9
      have ly1 := g1'.length
      have ly2 := g2'.length
      simp only [List.length_cons, List.length_nil] at ly1 ly2
      wp_walk using s9 _ _ f1', f2'
      refine ⟨by rw [sizeLine_eq]; omega, new_x ((g1'.up s9).app g2') fun z3 H10 s10 w10 => ?_⟩
      have S10 := (s8.trans s9).trans s10
      wp_walk using S10 _ _ e7, atI_z, hx1, S10 _ _ hq, (show cutV [u0, u1, u2, u3] (some 4) none = [] from rfl)
      refine new_x (ks := []) rfl fun z4 H11 s11 w11 => ?_
      obtain ⟨a3, y3, rfl, f3', g3'⟩ := w10
      obtain ⟨a4, y4, rfl, f4', g4'⟩ := w11
      have ly3 := g3'.length
      have ly4 := g4'.length
      simp only [List.length_append, List.length_cons, List.length_nil] at ly3 ly4
      wp_walk using s11 _ _ f3', f4'
      refine ⟨by rw [sizeLine_eq]; omega, new_x ((g3'.up s11).app g4') fun z5 H12 s12 w12 => ?_⟩
      have S12 := (S10.trans s11).trans s12
      wp_walk using S12 _ _ e7, u_gsub
      refine ⟨lc, cs, (ai : Int), ai, rfl, rfl, S12 _ _ e7, ?_, ?_⟩
      · unfold ixN
        rw [if_pos (by omega), if_pos (by omega)]
        rfl
      · refine fin ((cases m si ti).set ai ⟨kk.cond, kk.moves, kk.says, k.nxt⟩) _ _ ((F7.same S12).new lc0) upd_same ?_ ⟨?_, fun c hc => ?_⟩
        · rw [List.map_set]
          exact Rps.ts (tub_lst (S12 _ _ e7)) _ _ (Rps.set (k := eK ⟨kk.cond, kk.moves, kk.says, k.nxt⟩) w12 ai (R7.up S12))
        · rw [List.length_set]
          omega
        · rcases List.mem_or_eq_of_mem_set hc with h | h
          · exact old c h
          · rw [h]
            exact ⟨okk.cond, okk.len, okk.moves, okk.slen, okk.says, hk.nxt⟩

end
section
variable {P : Program} {w : World} {K : PySem.W.Frag} {mg : PySem.Str → Option Value} {base : Heap}

abbrev N_l_with_tag : List PySem.Str := ["_law_draws_here", "_law_machine_here", "_law_steps", "_law_row", "_law_condition_here"]
theorem sc_l_with_tag : FnScope N_l_with_tag ["_law_draws_here", "_law_machine_here"] (defScope s_l_with_tag) := ⟨rfl, rfl, rfl, by decide +kernel, rfl, by decide +kernel, by decide +kernel⟩
theorem c_l_with_tag (D : Df K mg "_law_with_tag" s_l_with_tag) (T : Tx K mg) (C_l_condition : Cal P w K mg base "_law_condition" 4 ["_law_draws_here", "_law_registers", "_law_depth"] (spCnd 2 fun _ => True)) (C_l_drawn_case : Cal P w K mg base "_law_drawn_case" 2 ["_law_draws_here", "_law_registers", "_law_standings", "_law_condition_here"] spDcase) : Cal P w K mg base "_law_with_tag" 5 ["_law_draws_here", "_law_machine_here"] spTag := by
  refine D.cal sc_l_with_tag (by rintro vs H Q E ⟨_, _, _, rfl, _⟩; rfl) (fun _ _ _ _ _ _ us hl => match us, hl with | [_, _], _ => rfl) fun f cdv A outer s H vs Q E hr h => ?_
  have hu : (A.deeper (envOfC "_law_with_tag" (defScope s_l_with_tag) s.heap.objs.size f cdv)).units + 64 < cLine := hr.units
  obtain ⟨d, m, x, rfl, okm, hx, hd, q⟩ := h
  have ok := okm.ok
  have h3 := ok.s3
  have h1 := ok.s1
  refine ⟨_, (pss_cons (ps_set (i := 2) sc_l_with_tag.nd rfl (Or.inl rfl) (pe_lst pa_nil))
    (pss_cons (ps_for PassesOwn.never rfl (pi_tup (pe_ix ixT (pv 1) pe_int (fun _ _ => rfl))) (pg_name (i := 3) sc_l_with_tag.nd rfl (Or.inl rfl)) (pss_cons (ps_set (i := 4) sc_l_with_tag.nd rfl (Or.inl rfl) (pe_cal C_l_condition hr (pa_cons (pv 0) (pa_cons (pe_ix ixT (pv 1) pe_int (fun _ _ => rfl)) (pa_cons pe_int pa_nil)))))
    (pss_one (ps_expr (pe_lm F.slot_list_append F.type_list_append mt_appL (pv 2) (pa_cons (pe_op op_catX (pv 3) (pe_tup (pa_cons (pe_tup (pa_cons (pe_cal C_l_drawn_case hr (pa_cons (pv 0) (pa_cons (pe_ix ixT (pv 1) pe_int (fun _ _ => rfl)) (pa_cons (pe_callB cr_lenT (by rfl) T.nlen (by decide +kernel) (pa_cons (pe_ix ixT (pv 1) pe_int (fun _ _ => rfl)) pa_nil)) (pa_cons (pv 4) pa_nil))))) pa_nil)) pa_nil))) pa_nil))))))
    (pss_one (ps_ret (pe_tup (pa_cons (pe_op op_add (pe_ix ixT (pv 1) pe_int (fun _ _ => rfl)) pe_int) (pa_cons (pe_ix ixT (pv 1) pe_int (fun _ _ => rfl)) (pa_cons (pe_callTy cr_tupL (by rfl) T.ntuple (by decide +kernel) (pa_cons (pv 2) pa_nil)) pa_nil)))))))), ?_⟩
  obtain ⟨pm, am, rows, rfl, m1, m2, m3⟩ := rp_m hx
  have hml := m3.length
  rw [List.length_map] at hml
  wp_walk using u_forT
  refine new_lst (by simp) fun la H1 hn1 s1 e1 => ?_
  wp_walk using u_forT, s1 _ _ m1
  have nla : la ≠ d := hd.fresh hn1
  obtain ⟨Pv, hPv⟩ : ∃ Pv : Nat → L2.St → Hp → Prop, Pv = fun i σ H' => ∃ (z1 z2 : Option V) (steps : List (List (List Cs))), σ = [some (.ref d), some (.ref pm), some (.ref la), z1, z2] ∧ Fr d H H' ∧ LT H' la (steps.map eRow) ∧ steps.length = i ∧ ∀ row ∈ steps, row.length = m.tags + 1 ∧ ∀ cs ∈ row, okR m.regs m.steps.length 50 cs := ⟨_, rfl⟩
  refine ⟨⟨_, SqT.of (s1 _ _ m2)⟩, forT_of (xs := rows) Pv ?_ ?_ ?_ ?_⟩
  · rw [hPv]
    exact ⟨_, _, [], rfl, Fr.of hd s1, ⟨_, e1, rfl⟩, rfl, fun _ h => nomatch h⟩
  · intro i σ H2 hi hp
    rw [hPv] at hp
    obtain ⟨z1, z2, steps, rfl, F2, _⟩ := hp
    exact F2.tub _ _ m2
  · intro i xr σ H2 hxi hp
    rw [hPv] at hp
    obtain ⟨z1, z2, steps, rfl, F2, la2, hsl, hst⟩ := hp
    obtain ⟨kr, hk1, hk2⟩ := m3.get2 hxi
    rw [List.getElem?_map] at hk1
    obtain ⟨row, hrow, rfl⟩ := Option.map_eq_some_iff.mp hk1
    have hrm := List.mem_of_getElem? hrow
    obtain ⟨pr, xs, rfl, p1, p2⟩ := rp_tup hk2
    have hxl := p2.length
    rw [List.length_map, (ok.rows row hrm).1] at hxl
    have ht6 := ok.t2
    have M1 := F2.tub _ _ m1
    have M2 := F2.tub _ _ m2
    wp_walk using M1
    refine ⟨d, m.regs, rfl, ok.r2, F2.d1, fun c y H3 hc _ f3 w3 => ?_⟩
    obtain ⟨ys, g1, g2⟩ := la2.fr f3 nla
    wp_walk using g1, f3.tub _ _ M1, f3.tub _ _ M2
    refine ⟨d, m.regs, rows.length, c, y, rfl, ok.r2, by omega, hc, w3, f3.d1, fun k y2 H4 hk f4 w4 => ?_⟩
    rw [hml] at hk
    wp_walk using u_c
    refine new_tup (Rps.one w4) (by simp) fun v1 H5 s5 w5 => ?_
    wp_walk using u_c
    refine new_tup (Rps.one w5) (by simp) fun v2 H6 s6 w6 => ?_
    have F4 := (F2.trans f3).trans f4
    obtain ⟨a2, y2, rfl, f1', g1'⟩ := w6
    have ly2 := g1'.length
    simp only [List.length_cons, List.length_nil] at ly2
    wp_walk using (s5.trans s6) _ _ (F4.tub _ _ p1), f1'
    refine ⟨by rw [sizeLine_eq]; omega, new_x (((F4.rps p2).up (s5.trans s6)).app g1') fun v3 H7 s7 w7 => ?_⟩
    have g3 := ((s5.trans s6).trans s7) _ _ (f4.sb _ _ g1 nla)
    wp_walk using g3
    have hyl := g2.length
    rw [List.length_map] at hyl
    have hil : i < rows.length := (List.getElem?_eq_some_iff.mp hxi).1
    refine ⟨by rw [sizeLine_eq]; omega, ?_⟩
    rw [hPv]
    refine ⟨_, _, steps ++ [row ++ [[k]]], rfl, (((F4.same s5).same s6).same s7).new (show H la = none from hn1), ?_, by rw [List.length_append, hsl]; rfl, fun r hr => ?_⟩
    · rw [List.map_append]
      refine LT.push g3 ((f4.rps g2).up ((s5.trans s6).trans s7)) ?_
      show Rp H7 (.tup ((row ++ [[k]]).map eR)) v3
      rw [List.map_append]
      exact w7
    · rcases List.mem_append.mp hr with h | h
      · exact hst r h
      · rw [List.mem_singleton.mp h]
        refine ⟨by rw [List.length_append, (ok.rows row hrm).1]; rfl, fun cs hc => ?_⟩
        rcases List.mem_append.mp hc with h | h
        · exact ⟨okm.few row hrm cs h, ((ok.rows row hrm).2 cs h).2⟩
        · rw [List.mem_singleton.mp h]
          refine ⟨by simp, fun c hc => ?_⟩
          rw [List.mem_singleton.mp hc]
          exact hk
  · intro σ H2 hp
    rw [hPv] at hp
    obtain ⟨z1, z2, steps, rfl, F2, la2, hsl, hst⟩ := hp
    obtain ⟨ys, g1, g2⟩ := la2
    wp_walk using g1, F2.tub _ _ m1
    refine new_tup1 g2 fun y1 H3 s3 r3 => ?_
    wp_walk using u_c
    refine new_tup (ks := [.num (m.tags + 1), .num m.regs, eS steps]) (rps_3 rfl rfl r3) (by simp) fun y2 H4 s4 r4 => ?_
    exact q ⟨m.tags + 1, m.regs, steps⟩ y2 H4 (tag_ok okm (hsl.trans hml) hst) ((F2.same s3).same s4) r4

abbrev N_l_machine : List PySem.Str := ["_law_draws_here", "_law_size", "_law_tags", "_law_machine_here", "_law_k"]
theorem sc_l_machine : FnScope N_l_machine ["_law_draws_here"] (defScope s_l_machine) := ⟨rfl, rfl, rfl, by decide +kernel, rfl, by decide +kernel, by decide +kernel⟩
theorem c_l_machine (D : Df K mg "_law_machine" s_l_machine) (T : Tx K mg) (C_l_take : Cal P w K mg base "_law_take" 1 ["_law_draws_here", "_law_many_here"] spTake) (C_l_drawn_machine : Cal P w K mg base "_law_drawn_machine" 5 ["_law_draws_here", "_law_tags", "_law_registers", "_law_standings"] spDm) (C_l_shaped_machine : Cal P w K mg base "_law_shaped_machine" 2 ["_law_draws_here"] spSm) (C_l_changed : Cal P w K mg base "_law_changed" 5 ["_law_draws_here", "_law_machine_here"] spChg) (C_l_with_tag : Cal P w K mg base "_law_with_tag" 5 ["_law_draws_here", "_law_machine_here"] spTag) : Cal P w K mg base "_law_machine" 6 ["_law_draws_here"] spMach := by
  refine D.cal sc_l_machine (by rintro vs H Q E ⟨_, rfl, _⟩; rfl) (fun _ _ _ _ _ _ us hl => match us, hl with | [_], _ => rfl) fun f cdv A outer s H vs Q E hr h => ?_
  have hu : (A.deeper (envOfC "_law_machine" (defScope s_l_machine) s.heap.objs.size f cdv)).units + 64 < cLine := hr.units
  obtain ⟨d, rfl, hd, q⟩ := h
  refine ⟨_, (pss_cons (ps_if (pt_cmpR op_eq (pe_cal C_l_take hr (pa_cons (pv 0) (pa_cons pe_int pa_nil))) pe_int (nomark _)) (pss_cons (ps_set (i := 1) sc_l_machine.nd rfl (Or.inl rfl) (pe_ix ixL (pe_lst (show PA _ _ (tTrs [] [.tup [.num 0, .num 2], .tup [.num 0, .num 3], .tup [.num 1, .num 1], .tup [.num 1, .num 1]]) from (pr_cons (pr_tup (pr_cons pr_int (pr_cons pr_int pr_nil))) (pr_cons (pr_tup (pr_cons pr_int (pr_cons pr_int pr_nil))) (pr_cons (pr_tup (pr_cons pr_int (pr_cons pr_int pr_nil))) (pr_cons (pr_tup (pr_cons pr_int (pr_cons pr_int pr_nil))) pr_nil)))))) (pe_cal C_l_take hr (pa_cons (pv 0) (pa_cons pe_int pa_nil))) (fun _ _ => rfl)))
    (pss_one (ps_ret (pe_cal C_l_drawn_machine hr (pa_cons (pv 0) (pa_cons (pe_op op_add pe_int (pe_cal C_l_take hr (pa_cons (pv 0) (pa_cons pe_int pa_nil)))) (pa_cons (pe_ix ixT (pv 1) pe_int (fun _ _ => rfl)) (pa_cons (pe_ix ixT (pv 1) pe_int (fun _ _ => rfl)) pa_nil)))))))) pss_nil)
    (pss_cons (ps_if (pt_cmpR op_eq (pe_cal C_l_take hr (pa_cons (pv 0) (pa_cons pe_int pa_nil))) pe_int (nomark _)) (pss_cons (ps_set (i := 1) sc_l_machine.nd rfl (Or.inl rfl) (pe_ix ixL (pe_lst (show PA _ _ (tTrs [] [.tup [.num 0, .num 2], .tup [.num 1, .num 1], .tup [.num 1, .num 2], .tup [.num 1, .num 3], .tup [.num 2, .num 1], .tup [.num 2, .num 1], .tup [.num 2, .num 1]]) from (pr_cons (pr_tup (pr_cons pr_int (pr_cons pr_int pr_nil))) (pr_cons (pr_tup (pr_cons pr_int (pr_cons pr_int pr_nil))) (pr_cons (pr_tup (pr_cons pr_int (pr_cons pr_int pr_nil))) (pr_cons (pr_tup (pr_cons pr_int (pr_cons pr_int pr_nil))) (pr_cons (pr_tup (pr_cons pr_int (pr_cons pr_int pr_nil))) (pr_cons (pr_tup (pr_cons pr_int (pr_cons pr_int pr_nil))) (pr_cons (pr_tup (pr_cons pr_int (pr_cons pr_int pr_nil))) pr_nil))))))))) (pe_cal C_l_take hr (pa_cons (pv 0) (pa_cons pe_int pa_nil))) (fun _ _ => rfl)))
    (pss_cons (ps_set (i := 2) sc_l_machine.nd rfl (Or.inl rfl) pe_int)
    (pss_cons (ps_if (pt_cmpR op_lt (pe_ix ixT (pv 1) pe_int (fun _ _ => rfl)) pe_int (nomark _)) (pss_one (ps_set (i := 2) sc_l_machine.nd rfl (Or.inl rfl) (pe_op op_add pe_int (pe_op op_fdiv (pe_cal C_l_take hr (pa_cons (pv 0) (pa_cons pe_int pa_nil))) pe_int)))) pss_nil)
    (pss_one (ps_ret (pe_cal C_l_drawn_machine hr (pa_cons (pv 0) (pa_cons (pv 2) (pa_cons (pe_ix ixT (pv 1) pe_int (fun _ _ => rfl)) (pa_cons (pe_ix ixT (pv 1) pe_int (fun _ _ => rfl)) pa_nil)))))))))) pss_nil)
    (pss_cons (ps_set (i := 3) sc_l_machine.nd rfl (Or.inl rfl) (pe_cal C_l_shaped_machine hr (pa_cons (pv 0) pa_nil)))
    (pss_cons (ps_for PassesOwn.never rfl (pi_range1 (by rfl) T.nrange (pa_cons (pe_cal C_l_take hr (pa_cons (pv 0) (pa_cons pe_int pa_nil))) pa_nil)) (pg_name (i := 4) sc_l_machine.nd rfl (Or.inl rfl)) (pss_one (ps_set (i := 3) sc_l_machine.nd rfl (Or.inl rfl) (pe_cal C_l_changed hr (pa_cons (pv 0) (pa_cons (pv 3) pa_nil))))))
    (pss_cons (ps_if (pt_cmpR op_eq (pe_cal C_l_take hr (pa_cons (pv 0) (pa_cons pe_int pa_nil))) pe_int (nomark _)) (pss_one (ps_set (i := 3) sc_l_machine.nd rfl (Or.inl rfl) (pe_cal C_l_with_tag hr (pa_cons (pv 0) (pa_cons (pv 3) pa_nil))))) pss_nil)
    (pss_one (ps_ret (pv 3)))))))), ?_⟩
  wp_walk using u_trs
  refine take_of hd (by decide) fun i1 H1 a0 a1 f1 => ?_
  wp_walk using u_trs
  refine ite2 (fun _ => ?_) fun _ => ?_
  · refine ⟨vs0, fun ys H2 s2 r2 => ?_⟩
    wp_walk using u_c
    have ly := r2.length
    refine new_lst (by rw [ly]; decide) fun lq H3 h3 s3 e3 => ?_
    have F3 := (f1.same s2).same s3
    have nlq : lq ≠ d := (f1.same s2).d1.fresh h3
    wp_walk using u_c
    refine take_of F3.d1 (by decide) fun i2 H4 b0 b1 f4 => ?_
    wp_walk using f4.sb _ _ e3 nlq
    have F4 := F3.trans f4
    obtain ⟨y, hy1, hy2⟩ : ∃ y, atI ys i2 = some y ∧ ∃ (r n : Nat) (p : Addr), y = .ref p ∧ H4 p = some (.tup [.int r, .int n]) ∧ r ≤ 2 ∧ 1 ≤ n ∧ n ≤ 3 := by
      refine any_at (H := H4) b0 (by rw [ly]; exact b1) fun y hy => ?_
      obtain ⟨j, hj⟩ := List.mem_iff_getElem?.mp hy
      obtain ⟨kj, hk1, hk2⟩ := r2.get2 hj
      have hkm := List.mem_of_getElem? hk1
      simp only [List.mem_cons, List.not_mem_nil, or_false] at hkm
      rcases hkm with rfl | rfl | rfl | rfl <;> obtain ⟨p, u, v, rfl, g1, g2, g3⟩ := rp_2 hk2 <;> cases rp_num g2 <;> cases rp_num g3
      · exact ⟨0, 2, p, rfl, f4.tub _ _ (s3 _ _ g1), by omega, by omega, by omega⟩
      · exact ⟨0, 3, p, rfl, f4.tub _ _ (s3 _ _ g1), by omega, by omega, by omega⟩
      · exact ⟨1, 1, p, rfl, f4.tub _ _ (s3 _ _ g1), by omega, by omega, by omega⟩
      · exact ⟨1, 1, p, rfl, f4.tub _ _ (s3 _ _ g1), by omega, by omega, by omega⟩
    obtain ⟨r, n, p, rfl, hp, o1, o2, o3⟩ := hy2
    refine ⟨_, hy1, ?_⟩
    wp_walk using u_c
    refine take_of F4.d1 (by decide) fun i3 H5 c0 c1 f5 => ?_
    obtain ⟨i3, rfl⟩ : ∃ k : Nat, i3 = k := ⟨i3.toNat, by omega⟩
    wp_walk using f5.tub _ _ hp
    exact ⟨d, 3 + i3, r, n, rfl, by omega, by omega, o1, o2, o3, f5.d1, fun m y H6 ok f6 w6 => q m y H6 ok ((F4.trans f5).trans f6) w6⟩
  · refine take_of f1.d1 (by decide) fun i1' H1' a0' a1' f1' => ?_
    have F1 := f1.trans f1'
    wp_walk using u_trs
    refine ite2 (fun _ => ?_) fun _ => ?_
    · refine ⟨vs0, fun ys H2 s2 r2 => ?_⟩
      wp_walk using u_c
      have ly := r2.length
      refine new_lst (by rw [ly]; decide) fun lq H3 h3 s3 e3 => ?_
      have F3 := (F1.same s2).same s3
      have nlq : lq ≠ d := (F1.same s2).d1.fresh h3
      wp_walk using u_c
      refine take_of F3.d1 (by decide) fun i2 H4 b0 b1 f4 => ?_
      wp_walk using f4.sb _ _ e3 nlq
      have F4 := F3.trans f4
      obtain ⟨y, hy1, hy2⟩ : ∃ y, atI ys i2 = some y ∧ ∃ (r n : Nat) (p : Addr), y = .ref p ∧ H4 p = some (.tup [.int r, .int n]) ∧ r ≤ 2 ∧ 1 ≤ n ∧ n ≤ 3 := by
        refine any_at (H := H4) b0 (by rw [ly]; exact b1) fun y hy => ?_
        obtain ⟨j, hj⟩ := List.mem_iff_getElem?.mp hy
        obtain ⟨kj, hk1, hk2⟩ := r2.get2 hj
        have hkm := List.mem_of_getElem? hk1
        simp only [List.mem_cons, List.not_mem_nil, or_false] at hkm
        rcases hkm with rfl | rfl | rfl | rfl | rfl | rfl | rfl <;> obtain ⟨p, u, v, rfl, g1, g2, g3⟩ := rp_2 hk2 <;> cases rp_num g2 <;> cases rp_num g3
        · exact ⟨0, 2, p, rfl, f4.tub _ _ (s3 _ _ g1), by omega, by omega, by omega⟩
        · exact ⟨1, 1, p, rfl, f4.tub _ _ (s3 _ _ g1), by omega, by omega, by omega⟩
        · exact ⟨1, 2, p, rfl, f4.tub _ _ (s3 _ _ g1), by omega, by omega, by omega⟩
        · exact ⟨1, 3, p, rfl, f4.tub _ _ (s3 _ _ g1), by omega, by omega, by omega⟩
        · exact ⟨2, 1, p, rfl, f4.tub _ _ (s3 _ _ g1), by omega, by omega, by omega⟩
        · exact ⟨2, 1, p, rfl, f4.tub _ _ (s3 _ _ g1), by omega, by omega, by omega⟩
        · exact ⟨2, 1, p, rfl, f4.tub _ _ (s3 _ _ g1), by omega, by omega, by omega⟩
      obtain ⟨r, n, p, rfl, hp, o1, o2, o3⟩ := hy2
      refine ⟨_, hy1, ?_⟩
      wp_walk using hp
      refine ite2 (fun _ => ?_) fun _ => ?_
      · refine take_of F4.d1 (by decide) fun i3 H5 c0 c1 f5 => ?_
        obtain ⟨i3, rfl⟩ : ∃ k : Nat, i3 = k := ⟨i3.toNat, by omega⟩
        wp_walk using f5.tub _ _ hp
        refine ⟨⟨by omega, by omega⟩, ?_⟩
        have e : (1 : Int) + (i3 : Int) / 3 = ((1 + i3 / 3 : Nat) : Int) := by omega
        rw [e]
        exact ⟨d, 1 + i3 / 3, r, n, rfl, by omega, by omega, o1, o2, o3, f5.d1, fun m y H6 ok f6 w6 => q m y H6 ok ((F4.trans f5).trans f6) w6⟩
      · wp_walk using hp
        exact ⟨d, 1, r, n, rfl, by omega, by omega, o1, o2, o3, F4.d1, fun m y H6 ok f6 w6 => q m y H6 ok (F4.trans f6) w6⟩
    · refine ⟨d, rfl, F1.d1, fun m0 y0 H2 ok0 f2 w2 => ?_⟩
      have F2 := F1.trans f2
      wp_walk using u_forR
      refine take_of F2.d1 (by decide) fun i3 H3 c0 c1 f3 => ?_
      obtain ⟨n3, rfl⟩ : ∃ k : Nat, i3 = k := ⟨i3.toNat, by omega⟩
      wp_walk using u_forR
      refine ⟨⟨by omega, by omega⟩, ?_⟩
      rw [Int.toNat_natCast]
      obtain ⟨Pv, hPv⟩ : ∃ Pv : Nat → L2.St → Hp → Prop, Pv = fun i σ H' => ∃ (z1 : Option V) (m : Mc) (y : V), σ = [some (.ref d), none, none, some y, z1] ∧ Fr d H H' ∧ okB (5 + i) 1 m ∧ Rp H' (eM m) y := ⟨_, rfl⟩
      refine forR_of Pv ?_ ?_ ?_
      · rw [hPv]
        exact ⟨_, m0, y0, rfl, F2.trans f3, ok0, f3.rp w2⟩
      · intro i σ H4 hi hp
        rw [hPv] at hp
        obtain ⟨z1, m, y, rfl, F4, ok, w4⟩ := hp
        wp_walk using u_c
        refine ⟨5 + i, d, m, y, rfl, by omega, ok, w4, F4.d1, fun m' y' H5 ok' f5 w5 => ?_⟩
        rw [hPv]
        exact ⟨_, m', y', rfl, F4.trans f5, ok', w5⟩
      · intro σ H4 hp
        rw [hPv] at hp
        obtain ⟨z1, m, y, rfl, F4, ok, w4⟩ := hp
        wp_walk using u_c
        refine take_of F4.d1 (by decide) fun i5 H5 c0 c1 f5 => ?_
        wp_walk using u_c
        refine ite2 (fun _ => ?_) fun _ => ?_
        · wp_walk using u_c
          exact ⟨d, m, y, rfl, ok.mono (by omega), f5.rp w4, f5.d1, fun m' y' H6 ok' f6 w6 => q m' y' H6 ok' ((F4.trans f5).trans f6) w6⟩
        · wp_walk using u_c
          exact q m y H5 ok.ok (F4.trans f5) (f5.rp w4)

end
section
variable {P : Program} {w : World} {K : PySem.W.Frag} {mg : PySem.Str → Option Value} {base : Heap}

abbrev N_l_any_type : List PySem.Str := ["_law_draws_here", "_law_machine_here", "_law_held", "_law_place"]
theorem sc_l_any_type : FnScope N_l_any_type ["_law_draws_here", "_law_machine_here"] (defScope s_l_any_type) := ⟨rfl, rfl, rfl, by decide +kernel, rfl, by decide +kernel, by decide +kernel⟩
theorem c_l_any_type (D : Df K mg "_law_any_type" s_l_any_type) (T : Tx K mg) (C_l_take : Cal P w K mg base "_law_take" 1 ["_law_draws_here", "_law_many_here"] spTake) (C_l_ranks : Cal P w K mg base "_law_ranks" 1 ["_law_held"] spRanks) : Cal P w K mg base "_law_any_type" 2 ["_law_draws_here", "_law_machine_here"] spType := by
  refine D.cal sc_l_any_type (by rintro vs H Q E ⟨_, _, _, rfl, _⟩; rfl) (fun _ _ _ _ _ _ us hl => match us, hl with | [_, _], _ => rfl) fun f cdv A outer s H vs Q E hr h => ?_
  have hu : (A.deeper (envOfC "_law_any_type" (defScope s_l_any_type) s.heap.objs.size f cdv)).units + 64 < cLine := hr.units
  obtain ⟨d, m, x, rfl, ok, hx, hd, q⟩ := h
  have h2 := ok.r2
  have h1 := ok.s1
  refine ⟨_, (pss_cons (ps_set (i := 2) sc_l_any_type.nd rfl (Or.inl rfl) (pe_lst pa_nil))
    (pss_cons (ps_for PassesOwn.never rfl (pi_range1 (by rfl) T.nrange (pa_cons (pe_ix ixT (pv 1) pe_int (fun _ _ => rfl)) pa_nil)) (pg_name (i := 3) sc_l_any_type.nd rfl (Or.inl rfl)) (pss_one (ps_expr (pe_lm F.slot_list_append F.type_list_append mt_appL (pv 2) (pa_cons (pe_ix ixL (pe_lst (pa_cons pe_non (pa_cons (pe_cal C_l_take hr (pa_cons (pv 0) (pa_cons pe_int pa_nil))) pa_nil))) (pe_callTy cr_intB (by rfl) T.nint (by decide +kernel) (pa_cons (pe_cmpR op_gt (pe_cal C_l_take hr (pa_cons (pv 0) (pa_cons pe_int pa_nil))) pe_int (nomark _)) pa_nil)) (fun _ _ => rfl)) pa_nil)))))
    (pss_one (ps_ret (pe_tup (pa_cons (pe_cal C_l_take hr (pa_cons (pv 0) (pa_cons (pe_callB cr_lenT (by rfl) T.nlen (by decide +kernel) (pa_cons (pe_ix ixT (pv 1) pe_int (fun _ _ => rfl)) pa_nil)) pa_nil))) (pa_cons (pe_cal C_l_ranks hr (pa_cons (pe_callTy cr_tupL (by rfl) T.ntuple (by decide +kernel) (pa_cons (pv 2) pa_nil)) pa_nil)) pa_nil))))))), ?_⟩
  obtain ⟨pm, am, rows, rfl, m1, m2, m3⟩ := rp_m hx
  have hml := m3.length
  rw [List.length_map] at hml
  wp_walk using u_forR
  refine new_lst (by simp) fun la H1 hn1 s1 e1 => ?_
  wp_walk using u_forR, s1 _ _ m1
  have nla : la ≠ d := hd.fresh hn1
  refine ⟨⟨by omega, by omega⟩, ?_⟩
  rw [Int.toNat_natCast]
  obtain ⟨Pv, hPv⟩ : ∃ Pv : Nat → L2.St → Hp → Prop, Pv = fun i σ H' => ∃ (z1 : Option V) (held : List OI), σ = [some (.ref d), some (.ref pm), some (.ref la), z1] ∧ Fr d H H' ∧ H' la = some (.lst (held.map vO)) ∧ held.length = i := ⟨_, rfl⟩
  refine forR_of Pv ?_ ?_ ?_
  · rw [hPv]
    exact ⟨_, [], rfl, Fr.of hd s1, e1, rfl⟩
  · intro i σ H2 hi hp
    rw [hPv] at hp
    obtain ⟨z1, held, rfl, F2, e2, hl⟩ := hp
    wp_walk using e2
    refine take_of F2.d1 (by decide) fun i1 H3 a0 a1 f3 => ?_
    wp_walk using u_c
    refine new_lst (by simp) fun lq H4 h4 s4 e4 => ?_
    have F4 := (F2.trans f3).same s4
    have nlq : lq ≠ d := f3.d1.fresh h4
    wp_walk using u_c
    refine take_of F4.d1 (by decide) fun i2 H5 b0 b1 f5 => ?_
    wp_walk using f5.sb _ _ e4 nlq
    refine any_at (H := H5) (by split <;> omega) (by split <;> simp) fun y hy => ?_
    have hy' : ∃ o : OI, y = vO o := by
      simp only [List.mem_cons, List.not_mem_nil, or_false] at hy
      rcases hy with rfl | rfl
      · exact ⟨none, rfl⟩
      · exact ⟨some i1, rfl⟩
    obtain ⟨o, rfl⟩ := hy'
    have e5 := f5.sb _ _ (s4 _ _ (f3.sb _ _ e2 nla)) nla
    wp_walk using e5
    refine ⟨by rw [List.length_map, sizeLine_eq]; omega, ?_⟩
    rw [hPv]
    exact ⟨_, held ++ [o], rfl, (F4.trans f5).new (show H la = none from hn1), by rw [upd_same, List.map_append]; rfl, by rw [List.length_append, hl]; rfl⟩
  · intro σ H2 hp
    rw [hPv] at hp
    obtain ⟨z1, held, rfl, F2, e2, hl⟩ := hp
    wp_walk using F2.tub _ _ m1, F2.tub _ _ m2
    refine take_of F2.d1 (by omega) fun si H3 a0 a1 f3 => ?_
    obtain ⟨si, rfl⟩ : ∃ k : Nat, si = k := ⟨si.toNat, by omega⟩
    wp_walk using f3.sb _ _ e2 nla
    refine new_tup1V fun p H4 s4 e4 => ?_
    wp_walk using u_c
    refine ⟨held, p, rfl, e4, by omega, fun p5 H5 s5 e5 => ?_⟩
    wp_walk using u_c
    refine new_tup (ks := [.num si, eH (ranks held)]) (rps_2 rfl (rp_eH.mpr ⟨p5, rfl, e5⟩)) (by simp) fun y H6 s6 w6 => ?_
    exact q (si, ranks held) y H6 ⟨⟨by show si < m.steps.length; omega, by show (ranks held).length = m.regs; rw [ranks_length, hl]⟩, held, rfl⟩ ((((F2.trans f3).same s4).same s5).same s6) w6

abbrev N_l_log : List PySem.Str := ["_law_script", "_law_draws_here", "_law_tags", "_law_most", "_law_factor", "_law_plus", "_law_log_here", "_law_k", "_law_value"]
theorem sc_l_log : FnScope N_l_log ["_law_script", "_law_draws_here", "_law_tags", "_law_most"] (defScope s_l_log) := ⟨rfl, rfl, rfl, by decide +kernel, rfl, by decide +kernel, by decide +kernel⟩
theorem c_l_log (D : Df K mg "_law_log" s_l_log) (T : Tx K mg) (C_l_take : Cal P w K mg base "_law_take" 1 ["_law_draws_here", "_law_many_here"] spTake) (C_l_cell : Cal P w K mg base "_law_cell" 2 ["_law_script", "_law_draws_here"] (spCell K)) : Cal P w K mg base "_law_log" 3 ["_law_script", "_law_draws_here", "_law_tags", "_law_most"] (spLog K) := by
  refine D.cal sc_l_log (by rintro vs H Q E ⟨_, _, _, _, rfl, _⟩; rfl) (fun _ _ _ _ _ _ us hl => match us, hl with | [_, _, _, _], _ => rfl) fun f cdv A outer s H vs Q E hr h => ?_
  have hu : (A.deeper (envOfC "_law_log" (defScope s_l_log) s.heap.objs.size f cdv)).units + 64 < cLine := hr.units
  obtain ⟨a, d, ns, t, rfl, hs, hns, ht, hd, q⟩ := h
  refine ⟨_, (pss_cons (ps_set (i := 4) sc_l_log.nd rfl (Or.inl rfl) (pe_ix ixL (pe_lst (pa_cons pe_int (pa_cons pe_int (pa_cons pe_int (pa_cons pe_int pa_nil))))) (pe_cal C_l_take hr (pa_cons (pv 1) (pa_cons pe_int pa_nil))) (fun _ _ => rfl)))
    (pss_cons (ps_set (i := 5) sc_l_log.nd rfl (Or.inl rfl) (pe_ix ixL (pe_lst (pa_cons pe_int (pa_cons pe_int (pa_cons (pe_un un_neg pe_int) (pa_cons (pe_cal C_l_cell hr (pa_cons (pv 0) (pa_cons (pv 1) pa_nil))) pa_nil))))) (pe_cal C_l_take hr (pa_cons (pv 1) (pa_cons pe_int pa_nil))) (fun _ _ => rfl)))
    (pss_cons (ps_set (i := 6) sc_l_log.nd rfl (Or.inl rfl) (pe_lst pa_nil))
    (pss_cons (ps_for PassesOwn.never rfl (pi_range1 (by rfl) T.nrange (pa_cons (pe_cal C_l_take hr (pa_cons (pv 1) (pa_cons (pe_op op_add (pv 3) pe_int) pa_nil))) pa_nil)) (pg_name (i := 7) sc_l_log.nd rfl (Or.inl rfl)) (pss_cons (ps_set (i := 8) sc_l_log.nd rfl (Or.inl rfl) (pe_cal C_l_take hr (pa_cons (pv 1) (pa_cons pe_int pa_nil))))
    (pss_one (ps_expr (pe_lm F.slot_list_append F.type_list_append mt_appL (pv 6) (pa_cons (pe_tup (pa_cons (pe_cal C_l_take hr (pa_cons (pv 1) (pa_cons (pv 2) pa_nil))) (pa_cons (pe_op op_add (pe_op op_mul (pv 4) (pv 8)) (pv 5)) pa_nil))) pa_nil))))))
    (pss_one (ps_ret (pe_callTy cr_tupL (by rfl) T.ntuple (by decide +kernel) (pa_cons (pv 6) pa_nil)))))))), ?_⟩
  wp_walk using u_forR
  refine new_lst (by simp) fun l1 H1 hn1 s1 e1 => ?_
  wp_walk using u_forR
  have F1 := Fr.of hd s1
  refine take_of F1.d1 (by decide) fun i1 H2 a0 a1 f2 => ?_
  have F2 := F1.trans f2
  wp_walk using f2.sb _ _ e1 (hd.fresh hn1)
  refine any_at (H := H2) a0 (by simpa using a1) fun y hy => ?_
  have hy' : ∃ fc : Int, y = .int fc := by
    simp only [List.mem_cons, List.not_mem_nil, or_false] at hy
    rcases hy with rfl | rfl | rfl | rfl <;> exact ⟨_, rfl⟩
  obtain ⟨fc, rfl⟩ := hy'
  refine ⟨a, d, ns, rfl, hs.fr F2, hns, F2.d1, fun cl H3 f3 => ?_⟩
  have F3 := F2.trans f3
  wp_walk using u_c
  refine new_lst (by simp) fun l4 H4 h4 s4 e4 => ?_
  wp_walk using u_c
  refine take_of (F3.same s4).d1 (by decide) fun i5 H5 b0 b1 f5 => ?_
  wp_walk using f5.sb _ _ e4 (F3.d1.fresh h4)
  refine any_at (H := H5) b0 (by simpa using b1) fun y hy => ?_
  have hy' : ∃ pl : Int, y = .int pl := by
    simp only [List.mem_cons, List.not_mem_nil, or_false] at hy
    rcases hy with rfl | rfl | rfl | rfl <;> exact ⟨_, rfl⟩
  obtain ⟨pl, rfl⟩ := hy'
  have F5 := (F3.same s4).trans f5
  refine new_lst (by simp) fun la H6 h6 s6 e6 => ?_
  have nla : la ≠ d := F5.d1.fresh h6
  have la0 : H la = none := F5.back h6
  have F6 := F5.same s6
  wp_walk using u_forR
  refine take_of F6.d1 (by decide) fun i7 H7 c0 c1 f7 => ?_
  obtain ⟨n, rfl⟩ : ∃ k : Nat, i7 = k := ⟨i7.toNat, by omega⟩
  wp_walk using u_forR
  refine ⟨⟨by omega, by omega⟩, ?_⟩
  rw [Int.toNat_natCast]
  obtain ⟨Pv, hPv⟩ : ∃ Pv : Nat → L2.St → Hp → Prop, Pv = fun i σ H' => ∃ (z1 z2 : Option V) (log : List (Nat × Int)), σ = [some (.ref a), some (.ref d), some (.int t), some (.int 10), some (.int fc), some (.int pl), some (.ref la), z1, z2] ∧ Fr d H H' ∧ LT H' la (log.map fun p => eE p.1 p.2) ∧ log.length = i ∧ ∀ p ∈ log, p.1 < t := ⟨_, rfl⟩
  refine forR_of Pv ?_ ?_ ?_
  · rw [hPv]
    exact ⟨_, _, [], rfl, F6.trans f7, ⟨_, f7.sb _ _ e6 nla, rfl⟩, rfl, fun _ h => nomatch h⟩
  · intro i σ H8 hi hp
    rw [hPv] at hp
    obtain ⟨z1, z2, log, rfl, F8, l8, hl, hlog⟩ := hp
    wp_walk using u_c
    refine take_of F8.d1 (by decide) fun v H9 v0 v6 f9 => ?_
    obtain ⟨xs, g1, g2⟩ := l8.fr f9 nla
    wp_walk using g1
    refine take_of f9.d1 (by omega) fun ti H10 t0 tl f10 => ?_
    obtain ⟨ti, rfl⟩ : ∃ k : Nat, ti = k := ⟨ti.toNat, by omega⟩
    wp_walk using u_c
    refine ⟨.inr ⟨by omega, by omega⟩, new_tup (ks := [.num ti, .num (fc * v + pl)]) (rps_2 rfl rfl) (by simp) fun y H11 s11 w11 => ?_⟩
    have g3 := s11 _ _ (f10.sb _ _ g1 nla)
    wp_walk using g3
    have hxl := g2.length
    rw [List.length_map] at hxl
    refine ⟨by rw [sizeLine_eq]; omega, ?_⟩
    rw [hPv]
    refine ⟨_, _, log ++ [(ti, fc * v + pl)], rfl, (((F8.trans f9).trans f10).same s11).new la0, ?_, by rw [List.length_append, hl]; rfl, fun p hp => ?_⟩
    · rw [List.map_append]
      exact LT.push g3 ((f10.rps g2).up s11) w11
    · rcases List.mem_append.mp hp with h | h
      · exact hlog p h
      · rw [List.mem_singleton.mp h]
        show ti < t
        omega
  · intro σ H8 hp
    rw [hPv] at hp
    obtain ⟨z1, z2, log, rfl, F8, l8, hl, hlog⟩ := hp
    obtain ⟨xs, g1, g2⟩ := l8
    wp_walk using g1
    exact new_tup1 g2 fun y H9 s9 w9 => q log y H9 hlog (by omega) (F8.same s9) w9

abbrev N_l_draws : List PySem.Str := ["_law_script", "_law_many_here", "_law_cells", "_law_rest", "_law_draws_here", "_law_k", "_law_at_here", "_law_once", "_law_cell_here"]
theorem sc_l_draws : FnScope N_l_draws ["_law_script", "_law_many_here"] (defScope s_l_draws) := ⟨rfl, rfl, rfl, by decide +kernel, rfl, by decide +kernel, by decide +kernel⟩
theorem c_l_draws (D : Df K mg "_law_draws" s_l_draws) (T : Tx K mg) : Cal P w K mg base "_law_draws" 1 ["_law_script", "_law_many_here"] (spDraws K) := by
  refine D.cal sc_l_draws (by rintro vs H Q E ⟨_, _, rfl, _⟩; rfl) (fun _ _ _ _ _ _ us hl => match us, hl with | [_, _], _ => rfl) fun f cdv A outer s H vs Q E hr h => ?_
  have hu : (A.deeper (envOfC "_law_draws" (defScope s_l_draws) s.heap.objs.size f cdv)).units + 64 < cLine := hr.units
  obtain ⟨a, ns, rfl, hs, hns, q⟩ := h
  refine ⟨_, (pss_cons (ps_setLc (i := 2) (own := [("_law_cell_here", 8)]) rfl sc_l_draws.nd rfl rfl (sw_true rfl rfl rfl (by decide +kernel)) (pi_list (pv 0)) (blkOk_by (own := [("_law_cell_here", 8)]) (N := N_l_draws) (sc := defScope s_l_draws) (by decide +kernel)) (fun _ _ _ _ _ => (pg_name (i := 8) sc_l_draws.nd rfl (Or.inl rfl))) (fun _ _ _ _ _ => pts_nil) (fun _ _ _ _ _ => (pe_callTy cr_int1 (by rfl) T.nint (by decide +kernel) (pa_cons (pv 8) pa_nil))))
    (pss_cons (ps_if (pt_cmpR op_eq (pe_callB cr_lenL (by rfl) T.nlen (by decide +kernel) (pa_cons (pv 2) pa_nil)) pe_int (nomark _)) (pss_one (ps_expr (pe_lm F.slot_list_append F.type_list_append mt_appL (pv 2) (pa_cons pe_int pa_nil)))) pss_nil)
    (pss_cons (ps_set (i := 3) sc_l_draws.nd rfl (Or.inl rfl) (pe_callTy cr_lstL (by rfl) T.nlist (by decide +kernel) (pa_cons (pv 2) pa_nil)))
    (pss_cons (ps_set (i := 4) sc_l_draws.nd rfl (Or.inl rfl) (pe_lst pa_nil))
    (pss_cons (ps_for PassesOwn.never rfl (pi_range1 (by rfl) T.nrange (pa_cons (pv 1) pa_nil)) (pg_name (i := 5) sc_l_draws.nd rfl (Or.inl rfl)) (pss_cons (ps_set (i := 6) sc_l_draws.nd rfl (Or.inl rfl) (pe_op op_mod (pv 5) (pe_callB cr_lenL (by rfl) T.nlen (by decide +kernel) (pa_cons (pv 2) pa_nil))))
    (pss_one (ps_if (pt_cmpR op_ge (pe_ix ixL (pv 2) (pv 6) (fun _ _ => rfl)) (pe_op op_pow pe_int pe_int) (nomark _)) (pss_cons (ps_expr (pe_lm F.slot_list_append F.type_list_append mt_appL (pv 4) (pa_cons (pe_op op_mod (pe_callTy cr_int1 (by rfl) T.nint (by decide +kernel) (pa_cons (pe_ix ixL (pv 3) (pv 6) (fun _ _ => rfl)) pa_nil)) pe_int) pa_nil)))
    (pss_one (ps_asg (pe_op op_fdiv (pe_ix ixL (pv 3) (pv 6) (fun _ _ => rfl)) pe_int) (pg_sub (pv 3) (pv 6) set_list)))) (pss_cons (ps_set (i := 7) sc_l_draws.nd rfl (Or.inl rfl) (pe_op op_mod (pe_callTy cr_int1 (by rfl) T.nint (by decide +kernel) (pa_cons (pe_op op_add (pe_op op_add (pe_op op_mul (pe_ix ixL (pv 2) (pv 6) (fun _ _ => rfl)) pe_int) (pe_op op_mul (pv 5) pe_int)) pe_int) pa_nil)) pe_int))
    (pss_one (ps_expr (pe_lm F.slot_list_append F.type_list_append mt_appL (pv 4) (pa_cons (pe_op op_mod (pe_callTy cr_int1 (by rfl) T.nint (by decide +kernel) (pa_cons (pe_op op_add (pe_op op_add (pe_op op_mul (pv 7) (pv 7)) (pe_op op_mul pe_int (pv 7))) (pv 5)) pa_nil)) pe_int) pa_nil)))))))))
    (pss_cons (ps_expr (pe_lm0 F.slot_list_reverse F.type_list_reverse mt_revL (pv 4)))
    (pss_one (ps_ret (pv 4))))))))), ?_⟩
  wp_walk using u_lcL
  have back : ∀ {H' : Hp} {p : Addr}, Same H H' → H' p = none → H p = none := fun {H' p} s h => by
    cases e : H p with
    | none => rfl
    | some o =>
      rw [s p o e] at h
      cases h
  refine ⟨⟨_, hs.sq⟩, lcS_of (R := FlatR V.int) (keep := ns.map some) hs flat_tub (by rw [List.length_map, List.length_map]) (by rw [List.length_map]; omega) (fun i x hxi H' C N hS hC hN => ?_) fun C acc H3 S3 hC hacc hA => ?_⟩
  · rw [List.getElem?_map] at hxi
    obtain ⟨o, ho, rfl⟩ := Option.map_eq_some_iff.mp hxi
    wp_walk using u_c
    exact hC _ _ o (by rw [List.getElem?_map, ho]; rfl) (Same.refl _) rfl
  · have ea := hA.flat
    rw [show (ns.map some).filterMap id = ns by rw [List.filterMap_map]; exact List.filterMap_some] at ea
    subst ea
    wp_walk using hacc
    refine ite2 (fun hz => ?_) fun hz => ?_
    · refine ⟨by rw [List.length_map, sizeLine_eq]; omega, ?_⟩
      obtain ⟨cs, hcs, hcl⟩ : ∃ cs : List Int, cs.map V.int = ns.map V.int ++ [.int 0] ∧ cs.length = 1 := ⟨ns ++ [0], by rw [List.map_append]; rfl, by rw [List.length_map] at hz; rw [List.length_append, List.length_cons, List.length_nil]; omega⟩
      rw [← hcs]
      obtain ⟨H3', hH3⟩ : ∃ H3', H3' = upd H3 C (.lst (cs.map V.int)) := ⟨_, rfl⟩
      have e3 : H3' C = some (.lst (cs.map V.int)) := by rw [hH3, upd_same]
      have S3 : Same H H3' := by rw [hH3]; exact same_lst S3 hC
      rw [← hH3]
      wp_walk using e3
      refine new_lst1 fun R H4 h4 s4 e4 => ?_
      refine new_lst (by simp) fun O H5 h5 s5 e5 => ?_
      have R0 : H R = none := back S3 h4
      have O0 : H O = none := back (S3.trans s4) h5
      have nCR : C ≠ R := ne_lst h4 e3
      have nCO : C ≠ O := ne_lst h5 (s4 _ _ e3)
      have nRO : R ≠ O := ne_lst h5 e4
      wp_walk using u_forR
      refine ⟨⟨by omega, by omega⟩, ?_⟩
      obtain ⟨Pv, hPv⟩ : ∃ Pv : Nat → L2.St → Hp → Prop, Pv = fun i σ H' => ∃ (z1 z2 z3 z4 : Option V) (rs os : List Int), σ = [some (.ref a), some (.int 400), some (.ref C), some (.ref R), some (.ref O), z1, z2, z3, z4] ∧ Same H H' ∧ H' C = some (.lst (cs.map V.int)) ∧ H' R = some (.lst (rs.map V.int)) ∧ H' O = some (.lst (os.map V.int)) ∧ rs.length = cs.length ∧ os.length = i := ⟨_, rfl⟩
      refine forR_of (n := 400) Pv ?_ ?_ ?_
      · rw [hPv]
        exact ⟨_, _, _, _, cs, [], rfl, (S3.trans s4).trans s5, s5 _ _ (s4 _ _ e3), s5 _ _ e4, e5, rfl, rfl⟩
      · intro i σ H6 hi hp
        rw [hPv] at hp
        obtain ⟨z1, z2, z3, z4, rs, os, rfl, S6, eC, eR, eO, hrl, hol⟩ := hp
        wp_walk using eC, eR, eO
        refine ⟨by rw [List.length_map]; omega, ?_⟩
        obtain ⟨j, hj⟩ : ∃ j : Nat, (i : Int) % ((cs.map V.int).length : Nat) = j := ⟨i % (cs.map V.int).length, (Int.natCast_emod _ _).symm⟩
        have hjl : j < cs.length := by
          have := Int.emod_lt_of_pos (i : Int) (show (0 : Int) < ((cs.map V.int).length : Nat) by rw [List.length_map]; omega)
          rw [hj, List.length_map] at this
          omega
        obtain ⟨cj, hcj⟩ := int_at hjl
        obtain ⟨rj, hrj⟩ := int_at (ns := rs) (j := j) (by omega)
        rw [hj]
        wp_walk using eC, eR, eO, atI_z, hcj, hrj
        refine ⟨⟨by decide, by decide, by decide⟩, ?_⟩
        refine ite2 (fun _ => ?_) fun _ => ?_
        · refine ⟨by decide, by rw [List.length_map, sizeLine_eq]; omega, ?_⟩
          have eR' : ∀ ys, upd H6 O (.lst ys) R = some (.lst (rs.map V.int)) := fun ys => by rw [upd_ne nRO]; exact eR
          wp_walk using eR', atI_z, hrj, u_gsub
          refine ⟨⟨by decide, by decide⟩, R, _, j, j, rfl, rfl, eR' _, ixN_z (by rw [List.length_map]; omega), ?_⟩
          rw [hPv]
          refine ⟨_, _, _, _, rs.set j (rj / 1000), os ++ [rj % 1000], rfl, same_lst (same_lst S6 O0) R0, by rw [upd_ne nCR, upd_ne nCO]; exact eC, by rw [upd_same, List.map_set], by rw [upd_ne nRO.symm, upd_same, List.map_append]; rfl, by rw [List.length_set, hrl], by rw [List.length_append, hol]; rfl⟩
        · refine ⟨.inr ⟨by decide, by decide⟩, .inr ⟨by decide, by decide⟩, by decide, ?_⟩
          generalize hz : (cj * 48271 + (i : Int) * 69621 + 11) % 2147483647 = z
          have z0 : 0 ≤ z := by rw [← hz]; exact Int.emod_nonneg _ (by decide)
          have z1 : z < 2147483647 := by rw [← hz]; exact Int.emod_lt_of_pos _ (by decide)
          wp_walk using eO
          refine ⟨.inl ⟨by omega, by omega⟩, .inl ⟨by decide, by decide⟩, by decide, by rw [List.length_map, sizeLine_eq]; omega, ?_⟩
          rw [hPv]
          exact ⟨_, _, _, _, rs, os ++ [(z * z + 3 * z + i) % 1000003], rfl, same_lst S6 O0, by rw [upd_ne nCO]; exact eC, by rw [upd_ne nRO]; exact eR, by rw [upd_same, List.map_append]; rfl, hrl, by rw [List.length_append, hol]; rfl⟩
      · intro σ H6 hp
        rw [hPv] at hp
        obtain ⟨z1, z2, z3, z4, rs, os, rfl, S6, eC, eR, eO, hrl, hol⟩ := hp
        wp_walk using eO
        exact q O _ O0 (same_lst S6 O0) ⟨os.reverse, by rw [upd_same, List.map_reverse]⟩
    · rw [List.length_map] at hz
      have e3 := hacc
      obtain ⟨cs, hcs⟩ : ∃ cs, cs = ns := ⟨_, rfl⟩
      rw [← hcs] at e3 hz
      rw [← hcs]
      wp_walk using e3
      refine new_lst1 fun R H4 h4 s4 e4 => ?_
      refine new_lst (by simp) fun O H5 h5 s5 e5 => ?_
      have R0 : H R = none := back S3 h4
      have O0 : H O = none := back (S3.trans s4) h5
      have nCR : C ≠ R := ne_lst h4 e3
      have nCO : C ≠ O := ne_lst h5 (s4 _ _ e3)
      have nRO : R ≠ O := ne_lst h5 e4
      wp_walk using u_forR
      refine ⟨⟨by omega, by omega⟩, ?_⟩
      obtain ⟨Pv, hPv⟩ : ∃ Pv : Nat → L2.St → Hp → Prop, Pv = fun i σ H' => ∃ (z1 z2 z3 z4 : Option V) (rs os : List Int), σ = [some (.ref a), some (.int 400), some (.ref C), some (.ref R), some (.ref O), z1, z2, z3, z4] ∧ Same H H' ∧ H' C = some (.lst (cs.map V.int)) ∧ H' R = some (.lst (rs.map V.int)) ∧ H' O = some (.lst (os.map V.int)) ∧ rs.length = cs.length ∧ os.length = i := ⟨_, rfl⟩
      refine forR_of (n := 400) Pv ?_ ?_ ?_
      · rw [hPv]
        exact ⟨_, _, _, _, cs, [], rfl, (S3.trans s4).trans s5, s5 _ _ (s4 _ _ e3), s5 _ _ e4, e5, rfl, rfl⟩
      · intro i σ H6 hi hp
        rw [hPv] at hp
        obtain ⟨z1, z2, z3, z4, rs, os, rfl, S6, eC, eR, eO, hrl, hol⟩ := hp
        wp_walk using eC, eR, eO
        refine ⟨by rw [List.length_map]; omega, ?_⟩
        obtain ⟨j, hj⟩ : ∃ j : Nat, (i : Int) % ((cs.map V.int).length : Nat) = j := ⟨i % (cs.map V.int).length, (Int.natCast_emod _ _).symm⟩
        have hjl : j < cs.length := by
          have := Int.emod_lt_of_pos (i : Int) (show (0 : Int) < ((cs.map V.int).length : Nat) by rw [List.length_map]; omega)
          rw [hj, List.length_map] at this
          omega
        obtain ⟨cj, hcj⟩ := int_at hjl
        obtain ⟨rj, hrj⟩ := int_at (ns := rs) (j := j) (by omega)
        rw [hj]
        wp_walk using eC, eR, eO, atI_z, hcj, hrj
        refine ⟨⟨by decide, by decide, by decide⟩, ?_⟩
        refine ite2 (fun _ => ?_) fun _ => ?_
        · refine ⟨by decide, by rw [List.length_map, sizeLine_eq]; omega, ?_⟩
          have eR' : ∀ ys, upd H6 O (.lst ys) R = some (.lst (rs.map V.int)) := fun ys => by rw [upd_ne nRO]; exact eR
          wp_walk using eR', atI_z, hrj, u_gsub
          refine ⟨⟨by decide, by decide⟩, R, _, j, j, rfl, rfl, eR' _, ixN_z (by rw [List.length_map]; omega), ?_⟩
          rw [hPv]
          refine ⟨_, _, _, _, rs.set j (rj / 1000), os ++ [rj % 1000], rfl, same_lst (same_lst S6 O0) R0, by rw [upd_ne nCR, upd_ne nCO]; exact eC, by rw [upd_same, List.map_set], by rw [upd_ne nRO.symm, upd_same, List.map_append]; rfl, by rw [List.length_set, hrl], by rw [List.length_append, hol]; rfl⟩
        · refine ⟨.inr ⟨by decide, by decide⟩, .inr ⟨by decide, by decide⟩, by decide, ?_⟩
          generalize hz : (cj * 48271 + (i : Int) * 69621 + 11) % 2147483647 = z
          have z0 : 0 ≤ z := by rw [← hz]; exact Int.emod_nonneg _ (by decide)
          have z1 : z < 2147483647 := by rw [← hz]; exact Int.emod_lt_of_pos _ (by decide)
          wp_walk using eO
          refine ⟨.inl ⟨by omega, by omega⟩, .inl ⟨by decide, by decide⟩, by decide, by rw [List.length_map, sizeLine_eq]; omega, ?_⟩
          rw [hPv]
          exact ⟨_, _, _, _, rs, os ++ [(z * z + 3 * z + i) % 1000003], rfl, same_lst S6 O0, by rw [upd_ne nCO]; exact eC, by rw [upd_ne nRO]; exact eR, by rw [upd_same, List.map_append]; rfl, hrl, by rw [List.length_append, hol]; rfl⟩
      · intro σ H6 hp
        rw [hPv] at hp
        obtain ⟨z1, z2, z3, z4, rs, os, rfl, S6, eC, eR, eO, hrl, hol⟩ := hp
        wp_walk using eO
        exact q O _ O0 (same_lst S6 O0) ⟨os.reverse, by rw [upd_same, List.map_reverse]⟩

end
/-! ### promises: pairs -/
def spJt : Sp := fun vs H Q _ => ∃ (a : Addr) (c d : Ct) (xc xd : V), vs = [.ref a, xc, xd] ∧ Rp H (eCt c) xc ∧ Rp H (eCt d) xd ∧ c.2.length + d.2.length ≤ 60 ∧ ∀ y H', Same H H' → Rp H' (eJ (jt c d)) y → Q y H'
def spCon (C : Addr) : Sp := fun vs H Q _ => ∃ (a D : Addr) (m : Mc) (J : Jt) (x xj : V), vs = [.ref a, xj] ∧ okM m ∧ okJ m J ∧ PairI C H a x D ∧ Rp H (eM m) x ∧ Rp H (eJ J) xj ∧ ∀ y H', Same H H' → Rp H' (.tup [eCt (jOne m J), eCt (jTwo m J)]) y → Q y H'
def oJ (H : Hp) : Option Jt → V → Prop
  | none, y => y = .non
  | some J, y => Rp H (eJ J) y
def spAft (C : Addr) : Sp := fun vs H Q _ => ∃ (a D : Addr) (m : Mc) (J : Jt) (t : Nat) (sp : Int) (x xj : V), vs = [.ref a, xj, .int t, .int sp] ∧ okM m ∧ okJ m J ∧ t < m.tags ∧ PairI C H a x D ∧ Rp H (eM m) x ∧ Rp H (eJ J) xj ∧ ∀ y H', Same H H' → oJ H' (jstep m J t sp) y → Q y H'
theorem rp_j {H : Hp} {J : Jt} {x : V} (h : Rp H (eJ J) x) : ∃ p a, x = .ref p ∧ H p = some (.tup [.int J.1, .int J.2.1, .ref a]) ∧ H a = some (.tup (J.2.2.map vO)) := by
  obtain ⟨p, u, v, z, e1, e2, e3, e4, e5⟩ := rp_3 h
  obtain ⟨a, e6, e7⟩ := rp_eH.mp e5
  rw [rp_num e3, rp_num e4, e6] at e2
  exact ⟨p, a, e1, e2, e7⟩
theorem eJ_mk {H : Hp} {s t : Nat} {rs : List OI} {p a : Addr} (h1 : H p = some (.tup [.int s, .int t, .ref a])) (h2 : H a = some (.tup (rs.map vO))) : Rp H (eJ (s, t, rs)) (.ref p) :=
  ⟨p, _, rfl, h1, rps_3 rfl rfl (rp_eH.mpr ⟨a, rfl, h2⟩)⟩
theorem noT_eO (o : OI) : noT (eO o) := by cases o <;> trivial
theorem noT_eH (l : List OI) : noT (eH l) := noTs_of fun k hk => by
  obtain ⟨o, _, rfl⟩ := List.mem_map.mp hk
  exact noT_eO o
theorem noT_eA (a : An) : noT (eA a) := noTs_of fun k hk => by
  obtain ⟨o, _, rfl⟩ := List.mem_map.mp hk
  exact ⟨trivial, noT_eO _, trivial⟩
theorem dep_le {ks : List NestedKey} {n : Nat} (h : ∀ k ∈ ks, k.depth ≤ n) : NestedKey.depthAll ks ≤ n := by
  induction ks with
  | nil => exact Nat.zero_le _
  | cons k ks ih =>
    show max _ _ ≤ n
    exact Nat.max_le.mpr ⟨h k List.mem_cons_self, ih fun x hx => h x (List.mem_cons_of_mem _ hx)⟩
theorem dep_eO (o : OI) : (eO o).depth ≤ 1 := by cases o <;> simp [eO, NestedKey.depth]
theorem dep_eA (a : An) : (eA a).depth ≤ 8 := by
  have h : NestedKey.depthAll (a.map eA1) ≤ 3 := dep_le fun k hk => by
    obtain ⟨p, _, rfl⟩ := List.mem_map.mp hk
    have := dep_eO p.2
    simp only [eA1, NestedKey.depth, NestedKey.depthAll]
    omega
  simp only [eA, NestedKey.depth]
  omega
theorem dep_eJ (J : Jt) : (eJ J).depth ≤ 8 := by
  have h : NestedKey.depthAll (J.2.2.map eO) ≤ 1 := dep_le fun k hk => by
    obtain ⟨p, _, rfl⟩ := List.mem_map.mp hk
    exact dep_eO p
  simp only [eJ, eH, NestedKey.depth, NestedKey.depthAll]
  omega
theorem map_inj {α β : Type} {f : α → β} (hf : ∀ a b, f a = f b → a = b) : ∀ {l k : List α}, l.map f = k.map f → l = k
  | [], [], _ => rfl
  | [], _ :: _, h => by cases h
  | _ :: _, [], h => by cases h
  | a :: l, b :: k, h => by
    rw [List.map_cons, List.map_cons] at h
    injection h with h1 h2
    rw [hf _ _ h1, map_inj hf h2]
theorem eA1_inj {p q : Int × OI} (h : eA1 p = eA1 q) : p = q := by
  unfold eA1 at h
  injection h with h
  injection h with h1 h2
  injection h1 with h1
  injection h2 with h2
  exact Prod.ext h1 (eO_inj h2)
theorem eA_inj {a b : An} (h : eA a = eA b) : a = b := by
  unfold eA at h
  injection h with h
  exact map_inj (fun _ _ => eA1_inj) h
theorem eJ_inj {a b : Jt} (h : eJ a = eJ b) : a = b := by
  unfold eJ eH at h
  injection h with h
  injection h with h1 h
  injection h with h2 h
  injection h with h3 _
  injection h1 with h1
  injection h2 with h2
  injection h3 with h3
  exact Prod.ext (by omega) (Prod.ext (by omega) (map_inj (fun _ _ => eO_inj) h3))
theorem dec_eA (a b : An) : decide (eA a = eA b) = decide (a = b) := decide_eq_decide.mpr ⟨eA_inj, fun e => by rw [e]⟩
section
variable {P : Program} {w : World} {K : PySem.W.Frag} {mg : PySem.Str → Option Value} {base : Heap} {C : Addr}

abbrev N_Pair_joint_type : List PySem.Str := ["self", "content", "another"]
theorem sc_Pair_joint_type : FnScope N_Pair_joint_type ["self", "content", "another"] (defScope s_Pair_joint_type) := ⟨rfl, rfl, rfl, by decide +kernel, rfl, by decide +kernel, by decide +kernel⟩
theorem c_Pair_joint_type (D : Dm K C "joint_type" "Pair.joint_type" s_Pair_joint_type) (T : Tx K mg) (TC : Tc K C) (C_ranks_of : Cal P w K mg base "ranks_of" 1 ["held"] spRanks) : MCal P w K mg base C "joint_type" 2 ["self", "content", "another"] spJt := by
  refine D.cal sc_Pair_joint_type (by rintro vs H Q E ⟨_, _, _, _, _, rfl, _⟩; rfl) (fun _ _ _ _ _ _ us hl => match us, hl with | [_, _, _], _ => rfl) fun f cdv A outer s H vs Q E hr h => ?_
  have hu : (A.deeper (envOfC "Pair.joint_type" (defScope s_Pair_joint_type) s.heap.objs.size f cdv)).units + 64 < cLine := hr.units
  obtain ⟨a, c, d, xc, xd, rfl, hc, hd, hl, q⟩ := h
  refine ⟨_, (pss_one (ps_ret (pe_tup (pa_cons (pe_ix ixT (pv 1) pe_int (fun _ _ => rfl)) (pa_cons (pe_ix ixT (pv 2) pe_int (fun _ _ => rfl)) (pa_cons (pe_cal C_ranks_of hr (pa_cons (pe_op op_catX (pe_ix ixT (pv 1) pe_int (fun _ _ => rfl)) (pe_ix ixT (pv 2) pe_int (fun _ _ => rfl))) pa_nil)) pa_nil)))))), ?_⟩
  obtain ⟨pc, ac, rfl, c1, c2⟩ := rp_ct hc
  obtain ⟨pd, ad, rfl, d1, d2⟩ := rp_ct hd
  wp_walk using c1, d1, c2, d2
  refine ⟨by rw [List.length_map, List.length_map, sizeLine_eq]; omega, fun p H1 s1 e1 => ?_⟩
  rw [← List.map_append] at e1
  refine ⟨c.2 ++ d.2, p, rfl, e1, by rw [List.length_append]; omega, fun p2 H2 s2 e2 => ?_⟩
  wp_walk using u_c
  refine new_tup (ks := [.num c.1, .num d.1, eH (ranks (c.2 ++ d.2))]) (rps_3 rfl rfl (rp_eH.mpr ⟨p2, rfl, e2⟩)) (by simp) fun y H3 s3 w3 => q y H3 ((s1.trans s2).trans s3) w3

abbrev N_Pair_contents : List PySem.Str := ["self", "joint", "held", "rank"]
theorem sc_Pair_contents : FnScope N_Pair_contents ["self", "joint"] (defScope s_Pair_contents) := ⟨rfl, rfl, rfl, by decide +kernel, rfl, by decide +kernel, by decide +kernel⟩
theorem c_Pair_contents (D : Dm K C "contents" "Pair.contents" s_Pair_contents) (T : Tx K mg) (TC : Tc K C) : MCal P w K mg base C "contents" 1 ["self", "joint"] (spCon C) := by
  refine D.cal sc_Pair_contents (by rintro vs H Q E ⟨_, _, _, _, _, _, rfl, _⟩; rfl) (fun _ _ _ _ _ _ us hl => match us, hl with | [_, _], _ => rfl) fun f cdv A outer s H vs Q E hr h => ?_
  have hu : (A.deeper (envOfC "Pair.contents" (defScope s_Pair_contents) s.heap.objs.size f cdv)).units + 64 < cLine := hr.units
  obtain ⟨a, D', m, J, x, xj, rfl, ok, okj, ⟨dx, ha⟩, hx, hj, q⟩ := h
  refine ⟨_, (pss_cons (ps_set (i := 2) sc_Pair_contents.nd rfl (Or.inl rfl) (pe_callTy cr_tupL (by rfl) T.ntuple (by decide +kernel) (pa_cons (pe_lc (own := [("rank", 3)]) rfl sc_Pair_contents.nd (pi_tup (pe_ix ixT (pv 1) pe_int (fun _ _ => rfl))) (blkOk_by (own := [("rank", 3)]) (N := N_Pair_contents) (sc := defScope s_Pair_contents) (by decide +kernel)) (fun _ _ _ _ _ => (pg_name (i := 3) sc_Pair_contents.nd rfl (Or.inl rfl))) (fun _ _ _ _ _ => pts_nil) (fun _ _ _ _ _ => (pe_ifExp (pt_cmp (pc_isN (pv 3)) rfl) pe_non (pe_op op_add (pe_op op_mul pe_int (pv 3)) pe_int)))) pa_nil)))
    (pss_one (ps_ret (pe_tup (pa_cons (pe_tup (pa_cons (pe_ix ixT (pv 1) pe_int (fun _ _ => rfl)) (pa_cons (pe_slice sl_X (pv 2) po_none (po_some (pe_ix ixT (pe_fldP TC.cl TC.n_one (pv 0)) pe_int (fun _ _ => rfl)))) pa_nil))) (pa_cons (pe_tup (pa_cons (pe_ix ixT (pv 1) pe_int (fun _ _ => rfl)) (pa_cons (pe_slice sl_X (pv 2) (po_some (pe_ix ixT (pe_fldP TC.cl TC.n_one (pv 0)) pe_int (fun _ _ => rfl))) po_none) pa_nil))) pa_nil)))))), ?_⟩
  obtain ⟨pm, am, rows, rfl, m1, m2, m3⟩ := rp_m hx
  obtain ⟨pj, aj, rfl, j1, j2⟩ := rp_j hj
  have hjl := okj.2.2.1
  have h2 := ok.r2
  wp_walk using u_lcT, j1
  refine ⟨⟨_, SqT.of j2⟩, lcT_of (R := FlatR vO) (keep := J.2.2.map fun o => some (o.map fun r => 2 * r + 1)) j2 flat_tub (by rw [List.length_map, List.length_map]) (by rw [List.length_map]; omega) (fun i x hxi H' C N hS hC hN => ?_) fun D acc H4 s4 hD hacc hA => ?_⟩
  · rw [List.getElem?_map] at hxi
    obtain ⟨o, ho, rfl⟩ := Option.map_eq_some_iff.mp hxi
    cases o with
    | none =>
      wp_walk using vO
      exact hC _ _ none (by rw [List.getElem?_map, ho]; rfl) (Same.refl _) rfl
    | some n =>
      wp_walk using vO
      exact ⟨.inl ⟨by decide, by decide⟩, hC _ _ (some (2 * n + 1)) (by rw [List.getElem?_map, ho]; rfl) (Same.refl _) rfl⟩
  · rw [fm_some] at hA
    have ea := hA.flat
    subst ea
    have es : (J.2.2.map fun o => o.map fun r => 2 * r + 1) = shown J.2.2 := rfl
    rw [es] at hacc
    wp_walk using hacc
    refine new_tup1V fun p5 H5 s5 e5 => ?_
    have S5 := s4.trans s5
    wp_walk using S5 _ _ j1, e5, u_fld, S5 _ _ ha, insF_mk, lk_one, S5 _ _ m1
    have hsl : ((shown J.2.2).map vO).length = 2 * m.regs := by rw [List.length_map, shown_length, hjl]
    rw [cut_take (n := m.regs) (by omega)]
    refine fun p6 H6 s6 e6 => ?_
    rw [← List.map_take] at e6
    wp_walk using u_c
    refine new_tup (ks := [.num J.1, eH ((shown J.2.2).take m.regs)]) (rps_2 rfl (rp_eH.mpr ⟨p6, rfl, e6⟩)) (by simp) fun y7 H7 s7 w7 => ?_
    have S7 := (S5.trans s6).trans s7
    wp_walk using S7 _ _ j1, (s6.trans s7) _ _ e5, u_fld, S7 _ _ ha, insF_mk, lk_one, S7 _ _ m1
    rw [cut_drop (n := m.regs) (by omega)]
    refine fun p8 H8 s8 e8 => ?_
    rw [← List.map_drop] at e8
    wp_walk using u_c
    refine new_tup (ks := [.num J.2.1, eH ((shown J.2.2).drop m.regs)]) (rps_2 rfl (rp_eH.mpr ⟨p8, rfl, e8⟩)) (by simp) fun y9 H9 s9 w9 => ?_
    wp_walk using u_c
    refine new_tup (ks := [eCt (jOne m J), eCt (jTwo m J)]) (rps_2 (w7.up (s8.trans s9)) w9) (by simp) fun y H10 s10 w10 => ?_
    exact q y H10 (((S7.trans s8).trans s9).trans s10) w10

abbrev N_Pair_after : List PySem.Str := ["self", "joint", "tag", "spot", "content", "another", "said", "other_said"]
theorem sc_Pair_after : FnScope N_Pair_after ["self", "joint", "tag", "spot"] (defScope s_Pair_after) := ⟨rfl, rfl, rfl, by decide +kernel, rfl, by decide +kernel, by decide +kernel⟩
theorem c_Pair_after (D : Dm K C "after" "Pair.after" s_Pair_after) (T : Tx K mg) (TC : Tc K C) (C_Pair_contents : MCal P w K mg base C "contents" 1 ["self", "joint"] (spCon C)) (C_read : Cal P w K mg base "read" 6 ["machine", "content", "entry"] spRead) (C_Pair_joint_type : MCal P w K mg base C "joint_type" 2 ["self", "content", "another"] spJt) : MCal P w K mg base C "after" 7 ["self", "joint", "tag", "spot"] (spAft C) := by
  refine D.cal sc_Pair_after (by rintro vs H Q E ⟨_, _, _, _, _, _, _, _, rfl, _⟩; rfl) (fun _ _ _ _ _ _ us hl => match us, hl with | [_, _, _, _], _ => rfl) fun f cdv A outer s H vs Q E hr h => ?_
  have hu : (A.deeper (envOfC "Pair.after" (defScope s_Pair_after) s.heap.objs.size f cdv)).units + 64 < cLine := hr.units
  obtain ⟨a, D', m, J, t, sp, x, xj, rfl, ok, okj, ht, ⟨dx, ha⟩, hx, hj, q⟩ := h
  refine ⟨_, (pss_cons (ps_asg (pe_mcal (pl := _) C_Pair_contents hr (pv 0) (pa_cons (pv 1) pa_nil)) (pg_tupK (K := K) (n := 2) rfl rfl (pgs_cons (pg_name (i := 4) sc_Pair_after.nd rfl (Or.inl rfl)) (pgs_cons (pg_name (i := 5) sc_Pair_after.nd rfl (Or.inl rfl)) pgs_nil))))
    (pss_cons (ps_asg (pe_cal C_read hr (pa_cons (pe_fldP TC.cl TC.n_one (pv 0)) (pa_cons (pv 4) (pa_cons (pe_tup (pa_cons (pv 2) (pa_cons (pv 3) pa_nil))) pa_nil)))) (pg_tupK (K := K) (n := 2) rfl rfl (pgs_cons (pg_name (i := 4) sc_Pair_after.nd rfl (Or.inl rfl)) (pgs_cons (pg_name (i := 6) sc_Pair_after.nd rfl (Or.inl rfl)) pgs_nil))))
    (pss_cons (ps_asg (pe_cal C_read hr (pa_cons (pe_fldP TC.cl TC.n_other (pv 0)) (pa_cons (pv 5) (pa_cons (pe_tup (pa_cons (pv 2) (pa_cons (pv 3) pa_nil))) pa_nil)))) (pg_tupK (K := K) (n := 2) rfl rfl (pgs_cons (pg_name (i := 5) sc_Pair_after.nd rfl (Or.inl rfl)) (pgs_cons (pg_name (i := 7) sc_Pair_after.nd rfl (Or.inl rfl)) pgs_nil))))
    (pss_cons (ps_if (pt_cmpR (op_neR hu) (pv 6) (pv 7) (nomark _)) (pss_one (ps_ret pe_non)) pss_nil)
    (pss_one (ps_ret (pe_mcal (pl := _) C_Pair_joint_type hr (pv 0) (pa_cons (pv 4) (pa_cons (pv 5) pa_nil))))))))), ?_⟩
  wp_walk using u_meth, ha, insF_mk, lk_con
  refine ⟨a, D', m, J, x, xj, rfl, ok, okj, ⟨dx, ha⟩, hx, hj, fun y1 H1 s1 w1 => ?_⟩
  obtain ⟨p1, u1, v1, rfl, g1, r1, r2⟩ := rp_pair w1
  refine gtup_of g1 rfl ?_
  wp_walk using u_fld, s1 _ _ ha, insF_mk, lk_one
  refine new_tup (ks := [.num t, .num sp]) (rps_2 rfl rfl) (by simp) fun y2 H2 s2 w2 => ?_
  have S2 := s1.trans s2
  refine ⟨m, jOne m J, t, sp, x, u1, y2, rfl, ok, okCt_one okj, ht, hx.up S2, r1.up s2, w2, fun y3 H3 s3 w3 => ?_⟩
  obtain ⟨p3, u3, v3, rfl, g3, r3, r4⟩ := rp_pair w3
  have S3 := S2.trans s3
  refine gtup_of g3 rfl ?_
  wp_walk using u_fld, S3 _ _ ha, insF_mk, lk_other
  refine new_tup (ks := [.num t, .num sp]) (rps_2 rfl rfl) (by simp) fun y4 H4 s4 w4 => ?_
  have S4 := S3.trans s4
  refine ⟨m, jTwo m J, t, sp, x, v1, y4, rfl, ok, okCt_two okj, ht, hx.up S4, r2.up ((s2.trans s3).trans s4), w4, fun y5 H5 s5 w5 => ?_⟩
  obtain ⟨p5, u5, v5, rfl, g5, r5, r6⟩ := rp_pair w5
  have S5 := S4.trans s5
  refine gtup_of g5 rfl ?_
  wp_walk using u_c
  refine ⟨_, _, r4.up (s4.trans s5), r6, noT_eA _, noT_eA _, Nat.le_trans (dep_eA _) (by decide), Nat.le_trans (dep_eA _) (by decide), ?_⟩
  wp_walk using dec_eA
  have c1 : okCt m (rd m (jOne m J) t sp).1 := rd_ok ok (okCt_one okj) ht
  have c2 : okCt m (rd m (jTwo m J) t sp).1 := rd_ok ok (okCt_two okj) ht
  have hj2 : jstep m J t sp = if (rd m (jOne m J) t sp).2 = (rd m (jTwo m J) t sp).2 then some (jt (rd m (jOne m J) t sp).1 (rd m (jTwo m J) t sp).1) else none := rfl
  by_cases e : (rd m (jOne m J) t sp).2 = (rd m (jTwo m J) t sp).2
  · rw [if_pos e] at hj2
    have h2 := ok.r2
    wp_walk using e, not_true, u_meth, S5 _ _ ha, insF_mk, lk_jt
    refine ⟨a, _, _, u3, u5, rfl, r3.up (s4.trans s5), r5, by rw [c1.2, c2.2]; omega, fun y H6 s6 w6 => q y H6 (S5.trans s6) ?_⟩
    rw [hj2]
    exact w6
  · rw [if_neg e] at hj2
    wp_walk using e, not_false_eq_true
    refine q .non H5 S5 ?_
    rw [hj2]
    exact rfl

end
/-! ### search -/
structure Bf (m : Mc) (J0 : Jt) (W : List Jt) : Prop where
  nd : W.Nodup
  ok : ∀ J ∈ W, okJ m J
  z : J0 ∈ W
  re : ∀ J ∈ W, Parts m J → Parts m J0
theorem Bf.one {m : Mc} {J0 : Jt} (h : okJ m J0) : Bf m J0 [J0] := by
  refine ⟨by simp, fun J hJ => ?_, by simp, fun J hJ p => ?_⟩
  · rw [List.mem_singleton.mp hJ]
    exact h
  · rw [List.mem_singleton.mp hJ] at p
    exact p
theorem Bf.push {m : Mc} (ok : okM m) {J0 J J' : Jt} {W : List Jt} (b : Bf m J0 W) (hJ : J ∈ W) {t : Nat} {sp : Int} (so : spotOk m J t sp) (e : jstep m J t sp = some J') (hn : J' ∉ W) : Bf m J0 (W ++ [J']) := by
  refine ⟨List.nodup_append.mpr ⟨b.nd, by simp, fun x hx y hy q => ?_⟩, fun K hK => ?_, List.mem_append_left _ b.z, fun K hK p => ?_⟩
  · rw [List.mem_singleton.mp hy] at q
    rw [q] at hx
    exact hn hx
  · rcases List.mem_append.mp hK with h | h
    · exact b.ok K h
    · rw [List.mem_singleton.mp h]
      exact jstep_ok ok (b.ok J hJ) so.1 e
  · rcases List.mem_append.mp hK with h | h
    · exact b.re K h p
    · rw [List.mem_singleton.mp h] at p
      exact b.re J hJ (.later so e p)
/-- joint type J is done: the closed ones are V, the seen ones W -/
def Gone (m : Mc) (V W : List Jt) (J : Jt) : Prop := J ∈ V ∨ ∀ t sp, spotOk m J t sp → ∃ J' ∈ W, jstep m J t sp = some J'
theorem Gone.app {m : Mc} {V W : List Jt} {J K : Jt} (h : Gone m V W J) : Gone m V (W ++ [K]) J := by
  rcases h with h | h
  · exact .inl h
  · exact .inr fun t sp so => by
      obtain ⟨J', h1, h2⟩ := h t sp so
      exact ⟨J', List.mem_append_left _ h1, h2⟩
theorem at_app {α : Type} {W : List α} {K x : α} {j : Nat} (hj : j < W.length) (h : (W ++ [K])[j]? = some x) : W[j]? = some x := by
  rwa [List.getElem?_append_left hj] at h
theorem never_of {m : Mc} {V W : List Jt} (hV : ∀ J ∈ V, ¬ Parts m J) (h : ∀ J ∈ W, Gone m V W J) : ∀ J ∈ W, ¬ Parts m J := fun J hJ p =>
  closed_never (W := W) (fun J hJ => (h J hJ).imp (hV J) id) p hJ
/-! the dicts of joint types -/
def addJ (W : List Jt) (J : Jt) : List Jt := if J ∈ W then W else W ++ [J]
theorem mem_eJ {W : List Jt} {J : Jt} : eJ J ∈ W.map eJ ↔ J ∈ W := by
  rw [List.mem_map]
  exact ⟨fun ⟨K, h1, h2⟩ => by rw [← eJ_inj h2]; exact h1, fun h => ⟨J, h, rfl⟩⟩
theorem addK_eJ {W : List Jt} {J : Jt} : addK (W.map eJ) (eJ J) = (addJ W J).map eJ := by
  unfold addK addJ
  by_cases h : J ∈ W
  · rw [if_pos (mem_eJ.mpr h), if_pos h]
  · rw [if_neg (fun q => h (mem_eJ.mp q)), if_neg h, List.map_append]
    rfl
theorem addJ_not {W : List Jt} {J : Jt} (h : J ∉ W) : addJ W J = W ++ [J] := if_neg h
theorem mem_addJ {W : List Jt} {J K : Jt} (h : K ∈ addJ W J) : K ∈ W ∨ K = J := by
  unfold addJ at h
  split at h
  · exact .inl h
  · rcases List.mem_append.mp h with h | h
    · exact .inl h
    · exact .inr (List.mem_singleton.mp h)
theorem addJ_nodup {W : List Jt} {J : Jt} (h : W.Nodup) : (addJ W J).Nodup := by
  unfold addJ
  split
  · exact h
  · rename_i hn
    refine List.nodup_append.mpr ⟨h, by simp, fun x hx y hy q => ?_⟩
    rw [List.mem_singleton.mp hy] at q
    rw [q] at hx
    exact hn hx
def Cld (P : Program) (w : World) (m : Mc) (H : Hp) (D : Addr) : Prop := ∃ V : List Jt, Dic P w H D (V.map eJ) ∧ V.Nodup ∧ ∀ J ∈ V, okJ m J ∧ ¬ Parts m J
theorem NewD.same {P : Program} {w : World} {d : Addr} {ks : List NestedKey} {H0 H H' : Hp} (n : NewD P w d ks H H') (s : Same H0 H) (h : H0 d = none) : Same H0 H' := fun b o e => by
  rw [n.2 b (ne_of_none e h)]
  exact s b o e
theorem Dic.ne {P : Program} {w : World} {H : Hp} {d b : Addr} {ks : List NestedKey} (x : Dic P w H d ks) {o : HO} (h : H b = some o) (hn : ∀ z u, o ≠ .frz z u) (hx : ∀ z, o ≠ .ext z) : b ≠ d := by
  obtain ⟨xs, e⟩ := x.here
  exact ne_of h e fun q => hx _ q
theorem Dic.lst {P : Program} {w : World} {H : Hp} {d b : Addr} {ks : List NestedKey} {xs : List V} (x : Dic P w H d ks) (h : H b = some (.lst xs)) : b ≠ d := x.ne h (fun _ _ q => nomatch q) fun _ q => nomatch q
def spPar (P : Program) (w : World) (C : Addr) : Sp := fun vs H Q _ => ∃ (a D : Addr) (m : Mc) (c d : Ct) (x xc xd : V), vs = [.ref a, xc, xd] ∧ okM m ∧ okCt m c ∧ okCt m d ∧ PairI C H a x D ∧ Rp H (eM m) x ∧ Rp H (eCt c) xc ∧ Rp H (eCt d) xd ∧ Cld P w m H D ∧
  ∀ b H', (b = true ↔ Parts m (jt c d)) → Sb D H H' → Cld P w m H' D → Q (.bl b) H'
theorem u_disp {P : Program} {w : World} {tk tv : TE} {σ : L2.St} {H : Hp} {Q : VK} : tDisp1 P w tk tv σ H Q = ∀ p H0, H p = none → Same H H0 → Dic P w H0 p [] → tk σ H0 fun x H1 => tv σ H1 fun _ H2 => ∃ k, (∃ a, x = .ref a) ∧ Rp H2 k x ∧ k.depth ≤ 8 ∧ Dic P w H2 p [] ∧ ∀ H', NewD P w p [k] H2 H' → Q (.ref p) H' := rfl
theorem ne_none' {H : Hp} {d b : Addr} {o : HO} (h : H d = some o) (q : H b = none) : b ≠ d := fun e => by
  rw [e, h] at q
  cases q
theorem ne_of_none' {P : Program} {w : World} {H : Hp} {d b : Addr} (h : ∃ xs : NE, H d = some (DicO P w d xs)) (q : H b = none) : b ≠ d := ne_none' h.choose_spec q
theorem ne_ins {P : Program} {w : World} {H : Hp} {d b C dx : Addr} {fs : List (PySem.Str × V)} (h : ∃ xs : NE, H d = some (DicO P w d xs)) (q : H b = some (.ins C dx fs)) : b ≠ d := ne_of q h.choose_spec fun e => nomatch e
def spInit (P : Program) (w : World) (C : Addr) : Sp := fun vs H Q _ => ∃ (a dx : Addr) (x : V), vs = [.ref a, x, x] ∧ H a = some (.ins C dx []) ∧ ∀ D H', H D = none → Sb a H H' → PairI C H' a x D → Dic P w H' D [] → Q .non H'
theorem evN_length (n : Nat) : (evN n).length = n := by
  unfold evN
  rw [List.length_map, List.length_range]
theorem mvN_length {n r : Nat} (h : r < n) : (mvN n r).length = n := by
  unfold mvN
  simp only [List.length_append, List.length_take, List.length_drop, List.length_cons, List.length_nil, evN_length]
  omega
/-- rank r is needed -/
def Need (m : Mc) (k : Ct) (r : Nat) : Prop := Parts m (jt (withV k (evN (many k.2))) (withV k (mvN (many k.2) r)))
def NeedL (m : Mc) (k : Ct) (ns : List Nat) : Prop := ns.Pairwise (· < ·) ∧ ∀ r, r ∈ ns ↔ r < many k.2 ∧ Need m k r
def spNby (P : Program) (w : World) (C : Addr) : Sp := fun vs H Q _ => ∃ (a D : Addr) (m : Mc) (k : Ct) (x xk : V), vs = [.ref a, xk] ∧ okM m ∧ okT m k ∧ PairI C H a x D ∧ Rp H (eM m) x ∧ Rp H (eCt k) xk ∧ Cld P w m H D ∧
  ∀ p ns H', NeedL m k ns → Sb D H H' → H' p = some (.tup (ns.map fun r : Nat => V.int r)) → Q (.ref p) H'
def spNeeded : Sp := fun vs H Q _ => ∃ (m : Mc) (k : Ct) (x xk : V), vs = [x, xk] ∧ okM m ∧ okT m k ∧ Rp H (eM m) x ∧ Rp H (eCt k) xk ∧ ∀ p ns H', NeedL m k ns → Same H H' → H' p = some (.tup (ns.map fun r : Nat => V.int r)) → Q (.ref p) H'
theorem okT_lt {m : Mc} {k : Ct} (h : okT m k) {r : Int} (hr : some r ∈ k.2) : 0 ≤ r ∧ r.toNat < many k.2 := by
  obtain ⟨_, held, e⟩ := h
  rw [e] at hr ⊢
  rw [many_ranks]
  unfold ranks at hr
  obtain ⟨o, ho, he⟩ := List.mem_map.mp hr
  cases o with
  | none => cases he
  | some v =>
    have e' : (rk (kn held) v : Int) = r := Option.some.inj he
    have h1 := rk_lt (mem_kn.mpr ho)
    omega
theorem okT_many {m : Mc} {k : Ct} (h : okT m k) (ok : okM m) : many k.2 ≤ 2 := by
  have h1 := kn_length k.2
  have h2 := h.1.2
  have := ok.r2
  show (kn k.2).length ≤ 2
  omega
theorem okCt_with {m : Mc} {k : Ct} {ns : List Int} (h : okT m k) : okCt m (withV k ns) := ⟨h.1.1, by show (List.map _ _).length = _; rw [List.length_map]; exact h.1.2⟩
section
variable {P : Program} {w : World} {K : PySem.W.Frag} {mg : PySem.Str → Option Value} {base : Heap} {C : Addr}

abbrev N_Pair_is_parted : List PySem.Str := ["self", "content", "another", "waiting", "seen", "at", "joint", "tag", "spot", "behind"]
theorem sc_Pair_is_parted : FnScope N_Pair_is_parted ["self", "content", "another"] (defScope s_Pair_is_parted) := ⟨rfl, rfl, rfl, by decide +kernel, rfl, by decide +kernel, by decide +kernel⟩
theorem c_Pair_is_parted (D : Dm K C "is_parted" "Pair.is_parted" s_Pair_is_parted) (T : Tx K mg) (TC : Tc K C) (C_spots_of : Cal P w K mg base "spots_of" 1 ["ranks"] spSpots) (C_Pair_joint_type : MCal P w K mg base C "joint_type" 2 ["self", "content", "another"] spJt) (C_Pair_after : MCal P w K mg base C "after" 7 ["self", "joint", "tag", "spot"] (spAft C)) : MCal P w K mg base C "is_parted" 8 ["self", "content", "another"] (spPar P w C) := by
  refine D.cal sc_Pair_is_parted (by rintro vs H Q E ⟨_, _, _, _, _, _, _, _, rfl, _⟩; rfl) (fun _ _ _ _ _ _ us hl => match us, hl with | [_, _, _], _ => rfl) fun f cdv A outer s H vs Q E hr h => ?_
  have hu : (A.deeper (envOfC "Pair.is_parted" (defScope s_Pair_is_parted) s.heap.objs.size f cdv)).units + 64 < cLine := hr.units
  obtain ⟨a, D', m, c, d, x, xc, xd, rfl, ok, okc, okd, ⟨dx, ha⟩, hx, hc, hd, ⟨Vc, dV, nV, hV⟩, q⟩ := h
  have h2 := ok.r2
  refine ⟨_, (pss_cons (ps_set (i := 3) sc_Pair_is_parted.nd rfl (Or.inl rfl) (pe_lst (pa_cons (pe_mcal (pl := _) C_Pair_joint_type hr (pv 0) (pa_cons (pv 1) (pa_cons (pv 2) pa_nil))) pa_nil)))
    (pss_cons (ps_set (i := 4) sc_Pair_is_parted.nd rfl (Or.inl rfl) (pe_disp1 hu (pe_ix ixL (pv 3) pe_int (fun _ _ => rfl)) pe_bl))
    (pss_cons (ps_set (i := 5) sc_Pair_is_parted.nd rfl (Or.inl rfl) pe_int)
    (pss_cons (ps_while PassesOwn.never (pt_cmpR op_lt (pv 5) (pe_callB cr_lenL (by rfl) T.nlen (by decide +kernel) (pa_cons (pv 3) pa_nil)) (nomark _)) (pss_cons (ps_set (i := 6) sc_Pair_is_parted.nd rfl (Or.inl rfl) (pe_ix ixL (pv 3) (pv 5) (fun _ _ => rfl)))
    (pss_cons (ps_aug (i := 5) sc_Pair_is_parted.nd rfl (Or.inl rfl) pe_int ip_add)
    (pss_one (ps_if (pt_cmpR (op_niD hu) (pv 6) (pe_fldP TC.cl TC.n_closed (pv 0)) rfl) (pss_one (ps_for PassesOwn.never rfl (pi_range1 (by rfl) T.nrange (pa_cons (pe_ix ixT (pe_fldP TC.cl TC.n_one (pv 0)) pe_int (fun _ _ => rfl)) pa_nil)) (pg_name (i := 7) sc_Pair_is_parted.nd rfl (Or.inl rfl)) (pss_one (ps_for PassesOwn.never rfl (pi_range1 (by rfl) T.nrange (pa_cons (pe_cal C_spots_of hr (pa_cons (pe_ix ixT (pv 6) pe_int (fun _ _ => rfl)) pa_nil)) pa_nil)) (pg_name (i := 8) sc_Pair_is_parted.nd rfl (Or.inl rfl)) (pss_cons (ps_set (i := 9) sc_Pair_is_parted.nd rfl (Or.inl rfl) (pe_mcal (pl := _) C_Pair_after hr (pv 0) (pa_cons (pv 6) (pa_cons (pv 7) (pa_cons (pv 8) pa_nil)))))
    (pss_cons (ps_if (pt_cmp (pc_isN (pv 9)) rfl) (pss_one (ps_ret pe_bl)) pss_nil)
    (pss_one (ps_if (pt_cmpR (op_niD hu) (pv 9) (pv 4) rfl) (pss_cons (ps_asg pe_bl (pg_sub (pv 4) (pv 9) (put_dic hu)))
    (pss_one (ps_expr (pe_lm F.slot_list_append F.type_list_append mt_appL (pv 3) (pa_cons (pv 9) pa_nil))))) pss_nil)))))))) pss_nil)))))
    (pss_cons (ps_for PassesOwn.never rfl (pi_list (pv 3)) (pg_name (i := 6) sc_Pair_is_parted.nd rfl (Or.inl rfl)) (pss_one (ps_asg pe_bl (pg_sub (pe_fldP TC.cl TC.n_closed (pv 0)) (pv 6) (put_dic hu)))))
    (pss_one (ps_ret pe_bl))))))), ?_⟩
  obtain ⟨pm, am, rows, rfl, m1, m2, m3⟩ := rp_m hx
  obtain ⟨J0, hJ0⟩ : ∃ J0, J0 = jt c d := ⟨_, rfl⟩
  have okj0 : okJ m J0 := by rw [hJ0]; exact okJ_jt ok okc okd
  wp_walk using u_meth, ha, insF_mk, lk_jt
  refine ⟨a, c, d, xc, xd, rfl, hc, hd, by rw [okc.2, okd.2]; omega, fun y1 H1 s1 w1 => ?_⟩
  rw [← hJ0] at w1
  refine new_lst (by simp) fun L H2 hL s2 e2 => ?_
  have S2 := s1.trans s2
  obtain ⟨pj0, aj0, rfl, _, _⟩ := rp_j w1
  wp_walk using u_disp
  intro S H3 hS s3 dS
  wp_walk using s3 _ _ e2
  refine ⟨eJ J0, w1.up (s2.trans s3), dep_eJ J0, dS, fun H4 n4 => ?_⟩
  have back : ∀ {H' : Hp} {p : Addr}, Same H H' → H' p = none → H p = none := fun {H' p} s h => by
    cases e : H p with
    | none => rfl
    | some o =>
      rw [s p o e] at h
      cases h
  have L0 : H L = none := back s1 hL
  have S0 : H S = none := back S2 hS
  have S4 : Same H H4 := n4.same (S2.trans s3) S0
  have nLS : L ≠ S := dS.lst (s3 _ _ e2)
  have e4 : H4 L = some (.lst [.ref pj0]) := by rw [n4.2 L nLS]; exact s3 _ _ e2
  have w4 : Rp H4 (eJ J0) (.ref pj0) := Rp.ts (n4.ts dS) _ _ (w1.up (s2.trans s3))
  -- what holds of the heap
  obtain ⟨Hb, hHb⟩ : ∃ Hb : Hp → List Jt → Prop, Hb = fun H' W => Same H H' ∧ (∃ xs, H' L = some (.lst xs) ∧ Rps H' (W.map eJ) xs) ∧ Dic P w H' S (W.map eJ) := ⟨_, rfl⟩
  have hb_up : ∀ {H' H'' : Hp} {W : List Jt}, Hb H' W → Same H' H'' → Hb H'' W := fun {H' H'' W} h s => by
    rw [hHb] at h ⊢
    obtain ⟨h1, ⟨xs, h2, h3⟩, h4⟩ := h
    exact ⟨h1.trans s, ⟨xs, s _ _ h2, h3.up s⟩, h4.up s⟩
  obtain ⟨Pv, hPv⟩ : ∃ Pv : Nat → L2.St → Hp → Prop, Pv = fun n σ H' => ∃ (at_ : Nat) (W : List Jt) (z6 z7 z8 z9 : Option V), n = 5626 - at_ ∧ σ = [some (.ref a), some xc, some xd, some (.ref L), some (.ref S), some (.int at_), z6, z7, z8, z9] ∧ Bf m J0 W ∧ Hb H' W ∧ at_ ≤ W.length ∧
    ∀ (j : Nat) J, j < at_ → W[j]? = some J → Gone m Vc W J := ⟨_, rfl⟩
  refine ⟨Pv, ⟨5626, ?_⟩, ?_⟩
  · rw [hPv]
    refine ⟨0, [J0], _, _, _, _, rfl, rfl, Bf.one okj0, ?_, Nat.zero_le _, fun j J hj => absurd hj (Nat.not_lt_zero j)⟩
    rw [hHb]
    exact ⟨S4, ⟨_, e4, Rps.one w4⟩, n4.1⟩
  intro n σ H5 hp
  rw [hPv] at hp
  obtain ⟨at_, W, z6, z7, z8, z9, rfl, rfl, B, hb, hat, hdn⟩ := hp
  have hb' := hb
  rw [hHb] at hb'
  obtain ⟨S5, ⟨xs, eL, rL⟩, dW⟩ := hb'
  have hxl := rL.length
  rw [List.length_map] at hxl
  have hfew := few ok B.nd B.ok
  wp_walk using eL
  refine ite2 (fun hlt => ?_) fun hge => ?_
  · have hltn : at_ < W.length := by omega
    refine ⟨fun σ' H' => ∃ m', m' < 5626 - at_ ∧ Pv m' σ' H', fun _ _ h => h, ?_⟩
    obtain ⟨J, hJ⟩ : ∃ J, W[at_]? = some J := ⟨_, List.getElem?_eq_getElem hltn⟩
    have hJm := List.mem_of_getElem? hJ
    have okj := B.ok J hJm
    obtain ⟨xj, hxj, rj⟩ := rL.get (i := at_) (k := eJ J) (by rw [List.getElem?_map, hJ]; rfl)
    obtain ⟨pj, aj, rfl, j1, j2⟩ := rp_j rj
    wp_walk using eL, atI_z, hxj, u_fld, S5 _ _ ha, insF_mk, lk_closed
    refine ⟨D', Vc.map eJ, eJ J, rfl, dV.up S5, ⟨_, rfl⟩, rj, dep_eJ J, ?_⟩
    have next : ∀ (W' : List Jt) (H' : Hp) (z6 z7 z8 z9 : Option V), Bf m J0 W' → Hb H' W' → (∀ (j : Nat) K, j < W.length → W[j]? = some K → W'[j]? = some K) → W.length ≤ W'.length → (∀ K, Gone m Vc W K → Gone m Vc W' K) → Gone m Vc W' J →
        ∃ m', m' < 5626 - at_ ∧ Pv m' [some (.ref a), some xc, some xd, some (.ref L), some (.ref S), some (.int ((at_ : Int) + 1)), z6, z7, z8, z9] H' := fun W' H' z6 z7 z8 z9 b hb' hext hl hg gj => by
      refine ⟨5626 - (at_ + 1), by omega, ?_⟩
      rw [hPv]
      refine ⟨at_ + 1, W', z6, z7, z8, z9, rfl, rfl, b, hb', by omega, fun j K hj hK => ?_⟩
      have hjl : j < W.length := by omega
      obtain ⟨K', hK'⟩ : ∃ K', W[j]? = some K' := ⟨_, List.getElem?_eq_getElem hjl⟩
      have e := hext j K' hjl hK'
      rw [hK] at e
      cases e
      rcases Nat.lt_succ_iff_lt_or_eq.mp hj with h | h
      · exact hg K (hdn j K h hK')
      · subst h
        rw [hJ] at hK'
        cases hK'
        exact gj
    by_cases hin : J ∈ Vc
    · wp_walk using mem_eJ, hin, not_true
      exact next W H5 _ _ _ _ B hb (fun _ _ _ h => h) (Nat.le_refl _) (fun _ h => h) (.inl hin)
    · wp_walk using mem_eJ, hin, not_false_eq_true, u_fld, S5 _ _ ha, insF_mk, lk_one, S5 _ _ m1, u_forR
      have ht6 := ok.t2
      refine ⟨⟨by omega, by omega⟩, ?_⟩
      rw [Int.toNat_natCast]
      obtain ⟨Core, hCore⟩ : ∃ Core : List Jt → Hp → Prop, Core = fun W' H' => Bf m J0 W' ∧ Hb H' W' ∧ Rp H' (eJ J) (.ref pj) ∧ (∀ (j : Nat) K, j < W.length → W[j]? = some K → W'[j]? = some K) ∧ W.length ≤ W'.length ∧ (∀ K, Gone m Vc W K → Gone m Vc W' K) := ⟨_, rfl⟩
      obtain ⟨Pt, hPt⟩ : ∃ Pt : Nat → L2.St → Hp → Prop, Pt = fun k σ H' => ∃ (W' : List Jt) (z7 z8 z9 : Option V), σ = [some (.ref a), some xc, some xd, some (.ref L), some (.ref S), some (.int ((at_ : Int) + 1)), some (.ref pj), z7, z8, z9] ∧ Core W' H' ∧
        ∀ t sp, t < k → spotOk m J t sp → ∃ J' ∈ W', jstep m J t sp = some J' := ⟨_, rfl⟩
      refine forR_of Pt ?_ ?_ ?_
      · rw [hPt, hCore]
        exact ⟨W, _, _, _, rfl, ⟨B, hb, rj, fun _ _ _ h => h, Nat.le_refl _, fun _ h => h⟩, fun t sp ht => absurd ht (Nat.not_lt_zero t)⟩
      · intro k σ H6 hk hp
        rw [hPt] at hp
        obtain ⟨W1, z7, z8, z9, rfl, core, hdt⟩ := hp
        have core' := core
        rw [hCore, hHb] at core'
        obtain ⟨_, _, rj6, _⟩ := core'
        obtain ⟨pj', aj', e', j1', j2'⟩ := rp_j rj6
        cases e'
        wp_walk using u_forR, j1'
        refine ⟨J.2.2, aj', rfl, j2', by have := okj.2.2.1; omega, fun H7 s7 => ?_⟩
        wp_walk using u_forR
        have hmany : many J.2.2 ≤ 4 := by
          have h1 := kn_length J.2.2
          have h3 := okj.2.2.1
          show (kn J.2.2).length ≤ 4
          omega
        refine ⟨⟨by omega, by omega⟩, ?_⟩
        have hn : (2 * (many J.2.2 : Int) + 1).toNat = 2 * many J.2.2 + 1 := by omega
        rw [hn]
        obtain ⟨Ps, hPs⟩ : ∃ Ps : Nat → L2.St → Hp → Prop, Ps = fun l σ H' => ∃ (W' : List Jt) (z8 z9 : Option V), σ = [some (.ref a), some xc, some xd, some (.ref L), some (.ref S), some (.int ((at_ : Int) + 1)), some (.ref pj), some (.int k), z8, z9] ∧ Core W' H' ∧
          (∀ t sp, t < k → spotOk m J t sp → ∃ J' ∈ W', jstep m J t sp = some J') ∧ ∀ sp : Nat, sp < l → ∃ J' ∈ W', jstep m J k sp = some J' := ⟨_, rfl⟩
        refine forR_of Ps ?_ ?_ ?_
        · rw [hPs]
          refine ⟨W1, _, _, rfl, ?_, hdt, fun sp h => absurd h (Nat.not_lt_zero sp)⟩
          rw [hCore] at core ⊢
          obtain ⟨a1, a2, a3, a4⟩ := core
          exact ⟨a1, hb_up a2 s7, a3.up s7, a4⟩
        · intro l σ H8 hl hp
          rw [hPs] at hp
          obtain ⟨W2, z8, z9, rfl, core, hdt2, hds⟩ := hp
          rw [hCore] at core
          obtain ⟨B2, hb2, rj8, hext, hle, hg⟩ := core
          have hb2' := hb2
          rw [hHb] at hb2'
          obtain ⟨S8, ⟨ys, eL8, rL8⟩, dW8⟩ := hb2'
          have hylen := rL8.length
          rw [List.length_map] at hylen
          have hfew2 := few ok B2.nd B2.ok
          have so : spotOk m J k (l : Int) := ⟨hk, by omega, by omega⟩
          have hJW2 : J ∈ W2 := List.mem_of_getElem? (hext at_ J hltn hJ)
          wp_walk using u_meth, S8 _ _ ha, insF_mk, lk_aft
          refine ⟨a, D', m, J, k, (l : Int), _, _, rfl, ok, okj, hk, ⟨dx, S8 _ _ ha⟩, hx.up S8, rj8, fun y H9 s9 r9 => ?_⟩
          have S9 := S8.trans s9
          cases hst : jstep m J k (l : Int) with
          | none =>
            rw [hst] at r9
            have ey : y = .non := r9
            subst ey
            wp_walk using if_true
            exact q true H9 ⟨fun _ => by rw [← hJ0]; exact B2.re J hJW2 (.now so hst), fun _ => rfl⟩ (fun b o e _ => S9 b o e) ⟨Vc, dV.up S9, nV, hV⟩
          | some J' =>
            rw [hst] at r9
            have r9' : Rp H9 (eJ J') y := r9
            obtain ⟨py, ay, rfl, _, _⟩ := rp_j r9'
            wp_walk using if_false
            refine ⟨S, W2.map eJ, eJ J', rfl, dW8.up s9, ⟨_, rfl⟩, r9', dep_eJ J', ?_⟩
            have eL9 := s9 _ _ eL8
            by_cases hin2 : J' ∈ W2
            · wp_walk using mem_eJ, hin2, not_true
              rw [hPs]
              refine ⟨W2, _, _, rfl, ?_, hdt2, fun sp hsp => ?_⟩
              · rw [hCore]
                exact ⟨B2, hb_up hb2 s9, rj8.up s9, hext, hle, hg⟩
              · rcases Nat.lt_succ_iff_lt_or_eq.mp hsp with h | h
                · exact hds sp h
                · rw [h]
                  exact ⟨J', hin2, hst⟩
            · wp_walk using mem_eJ, hin2, not_false_eq_true, u_gsub
              refine ⟨S, W2.map eJ, eJ J', rfl, dW8.up s9, ⟨_, rfl⟩, r9', dep_eJ J', by rw [List.length_map]; omega, fun H10 n10 => ?_⟩
              rw [addK_eJ, addJ_not hin2] at n10
              have t10 := n10.ts (dW8.up s9)
              have S10 : Same H H10 := n10.same S9 S0
              have eL10 : H10 L = some (.lst ys) := by rw [n10.2 L nLS]; exact eL9
              wp_walk using eL10
              refine ⟨by rw [sizeLine_eq]; omega, ?_⟩
              have t11 : Tub H10 (upd H10 L (.lst (ys ++ [.ref py]))) := tub_lst eL10
              rw [hPs]
              refine ⟨W2 ++ [J'], _, _, rfl, ?_, fun t sp ht so => ?_, fun sp hsp => ?_⟩
              · rw [hCore, hHb]
                refine ⟨B2.push ok hJW2 so hst hin2, ⟨same_lst S10 L0, ⟨_, upd_same, ?_⟩, n10.1.to t11 (upd_ne nLS.symm)⟩, Rp.ts t11 _ _ (Rp.ts t10 _ _ (rj8.up s9)), fun j K hj hK => ?_, by rw [List.length_append]; omega, fun K h => (hg K h).app⟩
                · rw [List.map_append]
                  exact (Rps.ts t11 _ _ (Rps.ts t10 _ _ (rL8.up s9))).app (Rps.one (Rp.ts t11 _ _ (Rp.ts t10 _ _ r9')))
                · have := hext j K hj hK
                  rw [List.getElem?_append_left (List.getElem?_eq_some_iff.mp this).1]
                  exact this
              · obtain ⟨K, h1, h2⟩ := hdt2 t sp ht so
                exact ⟨K, List.mem_append_left _ h1, h2⟩
              · rcases Nat.lt_succ_iff_lt_or_eq.mp hsp with h | h
                · obtain ⟨K, h1, h2⟩ := hds sp h
                  exact ⟨K, List.mem_append_left _ h1, h2⟩
                · rw [h]
                  exact ⟨J', List.mem_append_right _ (List.mem_singleton.mpr rfl), hst⟩
        · intro σ H8 hp
          rw [hPs] at hp
          obtain ⟨W2, z8, z9, rfl, core, hdt2, hds⟩ := hp
          rw [hPt]
          refine ⟨W2, _, _, _, rfl, core, fun t sp ht so => ?_⟩
          rcases Nat.lt_succ_iff_lt_or_eq.mp ht with h | h
          · exact hdt2 t sp h so
          · subst h
            obtain ⟨n, rfl⟩ : ∃ n : Nat, sp = n := ⟨sp.toNat, by have := so.2.1; omega⟩
            have := so.2.2
            exact hds n (by omega)
      · intro σ H6 hp
        rw [hPt] at hp
        obtain ⟨W1, z7, z8, z9, rfl, core, hdt⟩ := hp
        rw [hCore] at core
        obtain ⟨B2, hb2, rj8, hext, hle, hg⟩ := core
        exact next W1 H6 _ _ _ _ B2 hb2 hext hle hg (.inr fun t sp so => hdt t sp so.1 so)
  · have hge' : at_ = W.length := by omega
    have hall : ∀ J ∈ W, Gone m Vc W J := fun J hJ => by
      obtain ⟨j, hj⟩ := List.mem_iff_getElem?.mp hJ
      have hjl := (List.getElem?_eq_some_iff.mp hj).1
      exact hdn j J (by omega) hj
    have hnev := never_of (fun J hJ => (hV J hJ).2) hall
    wp_walk using u_forL
    have nLD : L ≠ D' := ne_of_none' dV.here L0
    obtain ⟨Pf, hPf⟩ : ∃ Pf : Nat → L2.St → Hp → Prop, Pf = fun i σ H' => ∃ (z6 z7 z8 z9 : Option V) (V' : List Jt), σ = [some (.ref a), some xc, some xd, some (.ref L), some (.ref S), some (.int at_), z6, z7, z8, z9] ∧ Sb D' H H' ∧ Tub H H' ∧ H' L = some (.lst xs) ∧ Rps H' (W.map eJ) xs ∧ Dic P w H' D' (V'.map eJ) ∧ V'.Nodup ∧ ∀ J ∈ V', J ∈ Vc ∨ J ∈ W := ⟨_, rfl⟩
    refine ⟨⟨_, SqL.of eL⟩, forL_of (xs := xs) Pf ?_ ?_ ?_ ?_⟩
    · rw [hPf]
      exact ⟨_, _, _, _, Vc, rfl, fun b o e _ => S5 b o e, Tub.of S5, eL, rL, dV.up S5, nV, fun J h => .inl h⟩
    · intro i σ H6 hi hp
      rw [hPf] at hp
      obtain ⟨z6, z7, z8, z9, V', rfl, sb, tb, e6, _⟩ := hp
      exact SqL.of e6
    · intro i xv σ H6 hxi hp
      rw [hPf] at hp
      obtain ⟨z6, z7, z8, z9, V', rfl, sb, tb, e6, r6, d6, n6, h6⟩ := hp
      obtain ⟨kj, hk1, hk2⟩ := r6.get2 hxi
      rw [List.getElem?_map] at hk1
      obtain ⟨J, hJ, rfl⟩ := Option.map_eq_some_iff.mp hk1
      have hJm := List.mem_of_getElem? hJ
      obtain ⟨pj, aj, rfl, _, _⟩ := rp_j hk2
      have hV'few := few ok n6 (fun J hJ => (h6 J hJ).elim (fun h => (hV J h).1) fun h => B.ok J h)
      have ea : H6 a = some (.ins C dx (flds (.ref pm) D')) := sb _ _ ha (ne_ins dV.here ha)
      wp_walk using u_gsub, u_fld, ea, insF_mk, lk_closed
      refine ⟨D', V'.map eJ, eJ J, rfl, d6, ⟨_, rfl⟩, hk2, dep_eJ J, by rw [List.length_map]; omega, fun H7 n7 => ?_⟩
      rw [addK_eJ] at n7
      have t7 := n7.ts d6
      rw [hPf]
      refine ⟨_, _, _, _, addJ V' J, rfl, fun b o e hb => by rw [n7.2 b hb]; exact sb b o e hb, tb.trans t7, by rw [n7.2 L nLD]; exact e6, Rps.ts t7 _ _ r6, n7.1, addJ_nodup n6, fun K hK => ?_⟩
      rcases mem_addJ hK with h | h
      · exact h6 K h
      · rw [h]
        exact .inr hJm
    · intro σ H6 hp
      rw [hPf] at hp
      obtain ⟨z6, z7, z8, z9, V', rfl, sb, tb, e6, r6, d6, n6, h6⟩ := hp
      wp_walk using u_c
      refine q false H6 ⟨(fun h => nomatch h), fun h => absurd (by rw [hJ0]; exact h) (hnev J0 B.z)⟩ sb ⟨V', d6, n6, fun J hJ => ?_⟩
      rcases h6 J hJ with h | h
      · exact hV J h
      · exact ⟨B.ok J h, hnev J h⟩

end
section
variable {P : Program} {w : World} {K : PySem.W.Frag} {mg : PySem.Str → Option Value} {base : Heap} {C : Addr}

abbrev N_Pair_init : List PySem.Str := ["self", "one", "other"]
theorem sc_Pair_init : FnScope N_Pair_init ["self", "one", "other"] (defScope s_Pair_init) := ⟨rfl, rfl, rfl, by decide +kernel, rfl, by decide +kernel, by decide +kernel⟩
theorem c_Pair_init (D : Dk K mg C "Pair" "Pair.__init__" s_Pair_init) (T : Tx K mg) (TC : Tc K C) : KCal P w K mg base C "Pair" 1 ["self", "one", "other"] (spInit P w C) := by
  refine D.cal sc_Pair_init (by rintro vs H Q E ⟨_, _, _, rfl, _⟩; rfl) (fun _ _ _ _ _ _ us hl => match us, hl with | [_, _, _], _ => rfl) fun f cdv A outer s H vs Q E hr h => ?_
  have hu : (A.deeper (envOfC "Pair.__init__" (defScope s_Pair_init) s.heap.objs.size f cdv)).units + 64 < cLine := hr.units
  obtain ⟨a, dx, x, rfl, ha, q⟩ := h
  refine ⟨_, (pss_cons (ps_fldP TC.cl TC.n_one (pv 0) (pv 1))
    (pss_cons (ps_fldP TC.cl TC.n_other (pv 0) (pv 2))
    (pss_one (ps_fldP TC.cl TC.n_closed (pv 0) pe_newD)))), ?_⟩
  wp_walk using u_sfld
  refine ⟨dx, [], ha, by show 0 < 1000; omega, ?_⟩
  wp_walk using u_sfld
  refine ⟨dx, _, upd_same, by show 1 < 1000; omega, ?_⟩
  wp_walk using u_sfld
  intro D H3 hD s3 dD
  refine ⟨dx, _, s3 _ _ upd_same, by show 2 < 1000; omega, ?_⟩
  have hD0 : H D = none ∧ D ≠ a := by
    have n : D ≠ a := fun e => by
      rw [e, upd_same] at hD
      cases hD
    rw [upd_ne n, upd_ne n] at hD
    exact ⟨hD, n⟩
  refine q D _ hD0.1 (fun b o e hb => ?_) ⟨dx, by rw [upd_same]; rfl⟩ ?_
  · rw [upd_ne hb]
    refine s3 b o ?_
    rw [upd_ne hb, upd_ne hb]
    exact e
  · refine dD.to (fun b xs e => ?_) (upd_ne hD0.2)
    rw [upd_ne]
    · exact e
    · exact ne_of e (s3 _ _ upd_same) fun z => nomatch z

abbrev N_needed_by : List PySem.Str := ["pair", "kind", "many", "values", "found", "rank", "moved"]
theorem sc_needed_by : FnScope N_needed_by ["pair", "kind"] (defScope s_needed_by) := ⟨rfl, rfl, rfl, by decide +kernel, rfl, by decide +kernel, by decide +kernel⟩
theorem c_needed_by (D : Df K mg "needed_by" s_needed_by) (T : Tx K mg) (C_spots_of : Cal P w K mg base "spots_of" 1 ["ranks"] spSpots) (C_with_values : Cal P w K mg base "with_values" 1 ["kind", "values"] spWith) (C_Pair_is_parted : MCal P w K mg base C "is_parted" 8 ["self", "content", "another"] (spPar P w C)) : Cal P w K mg base "needed_by" 9 ["pair", "kind"] (spNby P w C) := by
  refine D.cal sc_needed_by (by rintro vs H Q E ⟨_, _, _, _, _, _, rfl, _⟩; rfl) (fun _ _ _ _ _ _ us hl => match us, hl with | [_, _], _ => rfl) fun f cdv A outer s H vs Q E hr h => ?_
  have hu : (A.deeper (envOfC "needed_by" (defScope s_needed_by) s.heap.objs.size f cdv)).units + 64 < cLine := hr.units
  obtain ⟨a, D', m, k, x, xk, rfl, ok, okt, ⟨dx, ha⟩, hx, hk, cld, q⟩ := h
  have h2 := okT_many okt ok
  have hlk := okt.1.2
  have hr2 := ok.r2
  refine ⟨_, (pss_cons (ps_set (i := 2) sc_needed_by.nd rfl (Or.inl rfl) (pe_op op_fdiv (pe_cal C_spots_of hr (pa_cons (pe_ix ixT (pv 1) pe_int (fun _ _ => rfl)) pa_nil)) pe_int))
    (pss_cons (ps_setLc (i := 3) (own := [("rank", 5)]) rfl sc_needed_by.nd rfl rfl (sw_true rfl rfl rfl (by decide +kernel)) (pi_range1 (by rfl) T.nrange (pa_cons (pv 2) pa_nil)) (blkOk_by (own := [("rank", 5)]) (N := N_needed_by) (sc := defScope s_needed_by) (by decide +kernel)) (fun _ _ _ _ _ => (pg_name (i := 5) sc_needed_by.nd rfl (Or.inl rfl))) (fun _ _ _ _ _ => pts_nil) (fun _ _ _ _ _ => (pe_op op_mul pe_int (pv 5))))
    (pss_cons (ps_set (i := 4) sc_needed_by.nd rfl (Or.inl rfl) (pe_lst pa_nil))
    (pss_cons (ps_for PassesOwn.never rfl (pi_range1 (by rfl) T.nrange (pa_cons (pv 2) pa_nil)) (pg_name (i := 5) sc_needed_by.nd rfl (Or.inl rfl)) (pss_cons (ps_set (i := 6) sc_needed_by.nd rfl (Or.inl rfl) (pe_op op_cat (pe_op op_cat (pe_slice sl_list (pv 3) po_none (po_some (pv 5))) (pe_lst (pa_cons (pe_op op_add (pe_op op_mul pe_int (pv 5)) pe_int) pa_nil))) (pe_slice sl_list (pv 3) (po_some (pe_op op_add (pv 5) pe_int)) po_none)))
    (pss_one (ps_if (pt_val (pe_mcal (pl := _) C_Pair_is_parted hr (pv 0) (pa_cons (pe_cal C_with_values hr (pa_cons (pv 1) (pa_cons (pv 3) pa_nil))) (pa_cons (pe_cal C_with_values hr (pa_cons (pv 1) (pa_cons (pv 6) pa_nil))) pa_nil)))) (pss_one (ps_expr (pe_lm F.slot_list_append F.type_list_append mt_appL (pv 4) (pa_cons (pv 5) pa_nil)))) pss_nil))))
    (pss_one (ps_ret (pe_callTy cr_tupL (by rfl) T.ntuple (by decide +kernel) (pa_cons (pv 4) pa_nil)))))))), ?_⟩
  obtain ⟨pk, ak, rfl, k1, k2⟩ := rp_ct hk
  wp_walk using k1, k2
  refine ⟨k.2, ak, rfl, k2, by omega, fun H1 s1 => ?_⟩
  wp_walk using u_lcR
  refine ⟨⟨by decide, by decide⟩, ?_⟩
  have em : (2 * (many k.2 : Int) + 1) / 2 = many k.2 := by omega
  rw [em]
  obtain ⟨M, hM⟩ : ∃ M, M = many k.2 := ⟨_, rfl⟩
  rw [← hM] at h2 ⊢
  wp_walk using u_lcR
  refine ⟨⟨by omega, by omega⟩, ?_⟩
  rw [Int.toNat_natCast]
  refine lcR_of (R := FlatR V.int) (keep := (evN M).map some) flat_tub (by rw [List.length_map, evN_length]) (by omega) (fun i hi H' C N hS hC hN => ?_) fun L acc H2 s2 hL hacc hA => ?_
  · wp_walk using u_c
    refine ⟨.inl ⟨by decide, by decide⟩, ?_⟩
    refine hC _ _ (2 * (i : Int)) ?_ (Same.refl _) rfl
    rw [List.getElem?_map]
    unfold evN
    rw [List.getElem?_map, List.getElem?_range hi]
    rfl
  have ea := hA.flat
  rw [show ((evN M).map some).filterMap id = evN M by rw [List.filterMap_map]; exact List.filterMap_some] at ea
  subst ea
  have S2 := s1.trans s2
  wp_walk using u_forR
  refine new_lst (by simp) fun F H3 hF s3 e3 => ?_
  have S3 := S2.trans s3
  wp_walk using u_forR
  refine ⟨⟨by omega, by omega⟩, ?_⟩
  rw [Int.toNat_natCast]
  have back : ∀ {H' : Hp} {p : Addr}, Same H H' → H' p = none → H p = none := fun {H' p} s h => by
    cases e : H p with
    | none => rfl
    | some o =>
      rw [s p o e] at h
      cases h
  have L0 : H L = none := back s1 hL
  have F0 : H F = none := back S2 hF
  have nFL : L ≠ F := ne_lst hF hacc
  obtain ⟨Vc0, dV0, _⟩ := id cld
  have nLD : L ≠ D' := ne_of_none' dV0.here L0
  have nFD : F ≠ D' := ne_of_none' dV0.here F0
  obtain ⟨Pv, hPv⟩ : ∃ Pv : Nat → L2.St → Hp → Prop, Pv = fun i σ H' => ∃ (z5 z6 : Option V) (ns : List Nat), σ = [some (.ref a), some (.ref pk), some (.int M), some (.ref L), some (.ref F), z5, z6] ∧ Sb D' H H' ∧ Tub H H' ∧ H' L = some (.lst ((evN M).map V.int)) ∧ H' F = some (.lst (ns.map fun r : Nat => V.int r)) ∧ Cld P w m H' D' ∧ ns.Pairwise (· < ·) ∧ ∀ r, r ∈ ns ↔ r < i ∧ Need m k r := ⟨_, rfl⟩
  have cld_up : ∀ {H1 H2 : Hp}, Cld P w m H1 D' → Same H1 H2 → Cld P w m H2 D' := fun {H1 H2} ⟨V1, h1, h2⟩ s => ⟨V1, h1.up s, h2⟩
  refine forR_of Pv ?_ ?_ ?_
  · rw [hPv]
    exact ⟨_, _, [], rfl, fun b o e _ => S3 b o e, Tub.of S3, s3 _ _ hacc, e3, cld_up cld S3, by simp, fun r => ⟨(fun h => nomatch h), fun h => absurd h.1 (Nat.not_lt_zero r)⟩⟩
  · intro i σ H4 hi hp
    rw [hPv] at hp
    obtain ⟨z5, z6, ns, rfl, sb, tb, eL, eF, cl, hpw, hmem⟩ := hp
    wp_walk using u_slL, u_cat
    refine ⟨_, SqL.of eL, new_lst1 fun l1 H5 h5 s5 e5 => ?_⟩
    rw [cut_take (n := i) (by rw [List.length_map, evN_length]; omega), ← List.map_take] at e5
    wp_walk using u_slL, u_cat
    refine ⟨.inl ⟨by decide, by decide⟩, new_lst (by simp) fun l2 H6 h6 s6 e6 => ?_⟩
    wp_walk using s6 _ _ e5, e6
    refine ⟨by rw [List.length_map, List.length_take, evN_length, sizeLine_eq]; omega, new_lst1 fun l3 H7 h7 s7 e7 => ?_⟩
    have S7 := (s5.trans s6).trans s7
    wp_walk using u_slL, u_cat
    refine ⟨_, SqL.of (S7 _ _ eL), new_lst1 fun l4 H8 h8 s8 e8 => ?_⟩
    rw [show (i : Int) + 1 = ((i + 1 : Nat) : Int) from rfl, cut_drop (n := i + 1) (by rw [List.length_map, evN_length]; omega), ← List.map_drop] at e8
    wp_walk using s8 _ _ e7, e8
    refine ⟨by rw [List.length_append, List.length_map, List.length_map, List.length_take, List.length_drop, evN_length, sizeLine_eq]; simp only [List.length_cons, List.length_nil]; omega, new_lst1 fun l5 H9 h9 s9 e9 => ?_⟩
    have e9' : H9 l5 = some (.lst ((mvN M i).map V.int)) := by
      rw [e9]
      unfold mvN
      rw [List.map_append, List.map_append]
      rfl
    have S9 := (S7.trans s8).trans s9
    have a9 : H9 a = some (.ins C dx (flds x D')) := S9 _ _ (sb _ _ ha (ne_ins dV0.here ha))
    have k9 := Rp.ts (tb.trans (Tub.of S9)) _ _ hk
    wp_walk using u_meth, a9, insF_mk, lk_par
    refine ⟨k, evN M, _, L, rfl, k9, S9 _ _ eL, by omega, fun r hr => ?_, fun y1 H10 s10 w10 => ?_⟩
    · rw [evN_length, hM]
      exact okT_lt okt hr
    refine ⟨k, mvN M i, _, l5, rfl, k9.up s10, s10 _ _ e9', by omega, fun r hr => ?_, fun y2 H11 s11 w11 => ?_⟩
    · rw [mvN_length (by omega), hM]
      exact okT_lt okt hr
    have S11 := (S9.trans s10).trans s11
    refine ⟨a, D', m, _, _, x, y1, y2, rfl, ok, okCt_with okt, okCt_with okt, ⟨dx, (s10.trans s11) _ _ a9⟩, Rp.ts (tb.trans (Tub.of S11)) _ _ hx, w10.up s11, w11, cld_up cl S11, fun b H12 hb sb12 cl12 => ?_⟩
    have hneed : b = true ↔ Need m k i := by
      rw [hb, hM]
      exact Iff.rfl
    have sb' : Sb D' H H12 := fun c o e hc => sb12 _ _ (S11 _ _ (sb c o e hc)) hc
    obtain ⟨Vd, dVd, _⟩ := id cl
    have tb12 : Tub H11 H12 := fun c o e => sb12 _ _ e ((dVd.up S11).ne e (fun _ _ q => nomatch q) fun _ q => nomatch q)
    have tb' : Tub H H12 := (tb.trans (Tub.of S11)).trans tb12
    have eL' := sb12 _ _ (S11 _ _ eL) nLD
    have eF' := sb12 _ _ (S11 _ _ eF) nFD
    wp_walk using u_c
    refine ite2 (fun ht => ?_) fun ht => ?_
    · wp_walk using eF'
      have hlen : ns.length ≤ i := nodup_lt i ns (hpw.imp fun h => Nat.ne_of_lt h) fun r hr => ((hmem r).mp hr).1
      refine ⟨by rw [List.length_map, sizeLine_eq]; omega, ?_⟩
      rw [hPv]
      obtain ⟨V12, d12, r12⟩ := cl12
      refine ⟨_, _, ns ++ [i], rfl, fun c o e hc => ?_, tb'.trans (tub_lst eF'), by rw [upd_ne nFL]; exact eL', by rw [upd_same, List.map_append]; rfl, ⟨V12, d12.to (tub_lst eF') (upd_ne nFD.symm), r12⟩, ?_, fun r => ?_⟩
      · rw [upd_ne (ne_of_none e F0)]
        exact sb' c o e hc
      · rw [List.pairwise_append]
        exact ⟨hpw, by simp, fun r hr s hs => by rw [List.mem_singleton.mp hs]; exact ((hmem r).mp hr).1⟩
      · rw [List.mem_append, hmem, List.mem_singleton]
        constructor
        · rintro (h | h)
          · exact ⟨by omega, h.2⟩
          · rw [h]
            exact ⟨Nat.lt_succ_self i, hneed.mp ht⟩
        · rintro ⟨h1, h2⟩
          rcases Nat.lt_succ_iff_lt_or_eq.mp h1 with h | h
          · exact .inl ⟨h, h2⟩
          · exact .inr h
    · wp_walk using u_c
      rw [hPv]
      refine ⟨_, _, ns, rfl, sb', tb', eL', eF', cl12, hpw, fun r => ?_⟩
      rw [hmem]
      constructor
      · rintro ⟨h1, h2⟩
        exact ⟨by omega, h2⟩
      · rintro ⟨h1, h2⟩
        rcases Nat.lt_succ_iff_lt_or_eq.mp h1 with h | h
        · exact ⟨h, h2⟩
        · rw [h] at h2
          exact absurd (hneed.mpr h2) ht
  · intro σ H4 hp
    rw [hPv] at hp
    obtain ⟨z5, z6, ns, rfl, sb, tb, eL, eF, cl, hpw, hmem⟩ := hp
    wp_walk using eF
    exact new_tup1V fun p H5 s5 e5 => q p ns H5 ⟨hpw, fun r => by rw [hmem, hM]⟩ (fun b o e hb => s5 _ _ (sb b o e hb)) e5

abbrev N_needed : List PySem.Str := ["machine", "kind"]
theorem sc_needed : FnScope N_needed ["machine", "kind"] (defScope s_needed) := ⟨rfl, rfl, rfl, by decide +kernel, rfl, by decide +kernel, by decide +kernel⟩
theorem c_needed (D : Df K mg "needed" s_needed) (T : Tx K mg) (C_Pair : KCal P w K mg base C "Pair" 1 ["self", "one", "other"] (spInit P w C)) (C_needed_by : Cal P w K mg base "needed_by" 9 ["pair", "kind"] (spNby P w C)) : Cal P w K mg base "needed" 10 ["machine", "kind"] spNeeded := by
  refine D.cal sc_needed (by rintro vs H Q E ⟨_, _, _, _, rfl, _⟩; rfl) (fun _ _ _ _ _ _ us hl => match us, hl with | [_, _], _ => rfl) fun f cdv A outer s H vs Q E hr h => ?_
  have hu : (A.deeper (envOfC "needed" (defScope s_needed) s.heap.objs.size f cdv)).units + 64 < cLine := hr.units
  obtain ⟨m, k, x, xk, rfl, ok, okt, hx, hk, q⟩ := h
  refine ⟨_, (pss_one (ps_ret (pe_cal C_needed_by hr (pa_cons (pe_kmk C_Pair hr (pa_cons (pv 0) (pa_cons (pv 0) pa_nil))) (pa_cons (pv 1) pa_nil))))), ?_⟩
  wp_walk using u_mk
  intro a dx ha hdx hne
  have s1 : Same H (upd (upd H dx (.own a)) a (.ins C dx [])) := fun b o e => by
    rw [upd_ne (ne_of_none e ha), upd_ne (ne_of_none e hdx)]
    exact e
  refine ⟨a, dx, x, rfl, upd_same, fun D2 H2 hD sb2 hP dD => ⟨rfl, ?_⟩⟩
  have D0 : H D2 = none := by
    cases e : H D2 with
    | none => rfl
    | some o =>
      rw [s1 _ _ e] at hD
      cases hD
  have S2 : Same H H2 := fun b o e => sb2 _ _ (s1 b o e) (ne_of_none e ha)
  wp_walk using u_c
  refine ⟨a, D2, m, k, x, xk, rfl, ok, okt, hP, hx.up S2, hk.up S2, ⟨[], dD, by simp, fun J h => nomatch h⟩, fun p ns H3 hn sb3 e3 => ?_⟩
  exact q p ns H3 hn (fun b o e => sb3 _ _ (S2 b o e) (ne_of_none e D0)) e3

end
/-! ### paths -/
theorem Rch.snoc {m : Mc} {t : Nat} {sp : Int} {K K' : Jt} (so : spotOk m K t sp) (e : jstep m K t sp = some K') : ∀ {p : Pth} {J : Jt}, Rch m J p K → Rch m J (p ++ [(t, sp)]) K'
  | [], J, h => by
    have h' : J = K := h
    subst h'
    exact ⟨so, K', e, rfl⟩
  | (t2, sp2) :: r, J, ⟨h1, J', h2, h3⟩ => ⟨h1, J', h2, Rch.snoc so e h3⟩
theorem Rch.end_ {m : Mc} {t : Nat} {sp : Int} {K : Jt} (so : spotOk m K t sp) (e : jstep m K t sp = none) : ∀ {p : Pth} {J : Jt}, Rch m J p K → Fol m J (p ++ [(t, sp)])
  | [], J, h => by
    have h' : J = K := h
    subst h'
    exact ⟨so, .inl ⟨rfl, e⟩⟩
  | (t2, sp2) :: r, J, ⟨h1, J', h2, h3⟩ => ⟨h1, .inr ⟨J', h2, Rch.end_ so e h3⟩⟩
theorem Fol.parts {m : Mc} : ∀ {p : Pth} {J : Jt}, Fol m J p → Parts m J
  | [], _, h => h.elim
  | (t, sp) :: r, J, ⟨h1, h2⟩ => by
    rcases h2 with ⟨_, e⟩ | ⟨J', e, h⟩
    · exact .now h1 e
    · exact .later h1 e h.parts
def eF (q : Jt × Pth) : NestedKey := .tup [eJ q.1, eLog q.2]
structure Fd (m : Mc) (J0 : Jt) (F : List (Jt × Pth)) : Prop where
  nd : (F.map (·.1)).Nodup
  ok : ∀ q ∈ F, okJ m q.1 ∧ Rch m J0 q.2 q.1 ∧ q.2.length ≤ F.length
  z : J0 ∈ F.map (·.1)
theorem Fd.one {m : Mc} {J0 : Jt} (h : okJ m J0) : Fd m J0 [(J0, [])] := by
  refine ⟨by simp, fun q hq => ?_, by simp⟩
  rw [List.mem_singleton.mp hq]
  exact ⟨h, rfl, Nat.zero_le _⟩
theorem Fd.few {m : Mc} {J0 : Jt} {F : List (Jt × Pth)} (ok : okM m) (f : Fd m J0 F) : F.length ≤ 5625 := by
  have := K59.few ok f.nd fun J hJ => by
    obtain ⟨q, hq, rfl⟩ := List.mem_map.mp hJ
    exact (f.ok q hq).1
  rwa [List.length_map] at this
theorem Fd.push {m : Mc} (ok : okM m) {J0 J J' : Jt} {p : Pth} {F : List (Jt × Pth)} (f : Fd m J0 F) (hJ : (J, p) ∈ F) {t : Nat} {sp : Int} (so : spotOk m J t sp) (e : jstep m J t sp = some J') (hn : J' ∉ F.map (·.1)) : Fd m J0 (F ++ [(J', p ++ [(t, sp)])]) := by
  obtain ⟨h1, h2, h3⟩ : okJ m J ∧ Rch m J0 p J ∧ p.length ≤ F.length := f.ok _ hJ
  refine ⟨?_, fun q hq => ?_, by rw [List.map_append]; exact List.mem_append_left _ f.z⟩
  · rw [List.map_append]
    refine List.nodup_append.mpr ⟨f.nd, by simp, fun x hx y hy q => ?_⟩
    rw [List.mem_singleton.mp hy] at q
    rw [q] at hx
    exact hn hx
  · rw [List.length_append]
    rcases List.mem_append.mp hq with h | h
    · obtain ⟨a1, a2, a3⟩ := f.ok q h
      exact ⟨a1, a2, by omega⟩
    · rw [List.mem_singleton.mp h]
      refine ⟨jstep_ok ok h1 so.1 e, h2.snoc so e, ?_⟩
      show (p ++ [(t, sp)]).length ≤ _
      rw [List.length_append]
      simp only [List.length_cons, List.length_nil]
      omega
/-- what the path's search answers -/
def ePth : Option Pth → Hp → V → Prop
  | none, _, y => y = .non
  | some p, H, y => Rp H (eLog p) y
def pathOk (m : Mc) (J0 : Jt) : Option Pth → Prop
  | none => ¬ Parts m J0
  | some p => Fol m J0 p ∧ p.length ≤ 6000
def spPath : Sp := fun vs H Q _ => ∃ (m : Mc) (c d : Ct) (x xc xd : V), vs = [x, xc, x, xd] ∧ okM m ∧ okCt m c ∧ okCt m d ∧ Rp H (eM m) x ∧ Rp H (eCt c) xc ∧ Rp H (eCt d) xd ∧ ∀ o y H', pathOk m (jt c d) o → Same H H' → ePth o H' y → Q y H'
theorem eLog_app (p : Pth) (t : Nat) (sp : Int) : eLog (p ++ [(t, sp)]) = .tup (p.map (fun q => eE q.1 q.2) ++ [eE t sp]) := by
  unfold eLog
  rw [List.map_append]
  rfl
theorem keys_eF {F : List (Jt × Pth)} : (F.map fun q => eJ q.1) = (F.map (·.1)).map eJ := by rw [List.map_map]; rfl
section
variable {P : Program} {w : World} {K : PySem.W.Frag} {mg : PySem.Str → Option Value} {base : Heap} {C : Addr}

abbrev N_l_path : List PySem.Str := ["_law_one", "_law_content", "_law_other", "_law_another", "_law_found", "_law_known", "_law_k", "_law_joint", "_law_held", "_law_tag", "_law_spot", "_law_first", "_law_second", "_law_key"]
theorem sc_l_path : FnScope N_l_path ["_law_one", "_law_content", "_law_other", "_law_another"] (defScope s_l_path) := ⟨rfl, rfl, rfl, by decide +kernel, rfl, by decide +kernel, by decide +kernel⟩
theorem c_l_path (D : Df K mg "_law_path" s_l_path) (T : Tx K mg) (C_l_ranks : Cal P w K mg base "_law_ranks" 1 ["_law_held"] spRanks) (C_l_shown : Cal P w K mg base "_law_shown" 1 ["_law_ranks_here"] spShown) (C_l_many : Cal P w K mg base "_law_many" 1 ["_law_ranks_here"] spMany) (C_l_read : Cal P w K mg base "_law_read" 6 ["_law_machine_here", "_law_content", "_law_entry"] spRead) : Cal P w K mg base "_law_path" 7 ["_law_one", "_law_content", "_law_other", "_law_another"] spPath := by
  refine D.cal sc_l_path (by rintro vs H Q E ⟨_, _, _, _, _, _, rfl, _⟩; rfl) (fun _ _ _ _ _ _ us hl => match us, hl with | [_, _, _, _], _ => rfl) fun f cdv A outer s H vs Q E hr h => ?_
  have hu : (A.deeper (envOfC "_law_path" (defScope s_l_path) s.heap.objs.size f cdv)).units + 64 < cLine := hr.units
  obtain ⟨m, c, d, x, xc, xd, rfl, ok, okc, okd, hx, hc, hd, q⟩ := h
  have h2 := ok.r2
  have ht6 := ok.t2
  refine ⟨_, (pss_cons (ps_set (i := 4) sc_l_path.nd rfl (Or.inl rfl) (pe_lst (pa_cons (pe_tup (pa_cons (pe_tup (pa_cons (pe_ix ixT (pv 1) pe_int (fun _ _ => rfl)) (pa_cons (pe_ix ixT (pv 3) pe_int (fun _ _ => rfl)) (pa_cons (pe_cal C_l_ranks hr (pa_cons (pe_op op_catX (pe_ix ixT (pv 1) pe_int (fun _ _ => rfl)) (pe_ix ixT (pv 3) pe_int (fun _ _ => rfl))) pa_nil)) pa_nil)))) (pa_cons (pe_tup pa_nil) pa_nil))) pa_nil)))
    (pss_cons (ps_set (i := 5) sc_l_path.nd rfl (Or.inl rfl) (pe_disp1 hu (pe_ix ixT (pe_ix ixL (pv 4) pe_int (fun _ _ => rfl)) pe_int (fun _ _ => rfl)) pe_bl))
    (pss_cons (ps_for PassesOwn.never rfl (pi_range1 (by rfl) T.nrange (pa_cons pe_int pa_nil)) (pg_name (i := 6) sc_l_path.nd rfl (Or.inl rfl)) (pss_cons (ps_if (pt_cmpR op_ge (pv 6) (pe_callB cr_lenL (by rfl) T.nlen (by decide +kernel) (pa_cons (pv 4) pa_nil)) (nomark _)) (pss_one ps_break) pss_nil)
    (pss_cons (ps_set (i := 7) sc_l_path.nd rfl (Or.inl rfl) (pe_ix ixT (pe_ix ixL (pv 4) (pv 6) (fun _ _ => rfl)) pe_int (fun _ _ => rfl)))
    (pss_cons (ps_set (i := 8) sc_l_path.nd rfl (Or.inl rfl) (pe_cal C_l_shown hr (pa_cons (pe_ix ixT (pv 7) pe_int (fun _ _ => rfl)) pa_nil)))
    (pss_one (ps_for PassesOwn.never rfl (pi_range1 (by rfl) T.nrange (pa_cons (pe_ix ixT (pv 0) pe_int (fun _ _ => rfl)) pa_nil)) (pg_name (i := 9) sc_l_path.nd rfl (Or.inl rfl)) (pss_one (ps_for PassesOwn.never rfl (pi_range1 (by rfl) T.nrange (pa_cons (pe_op op_add (pe_op op_mul pe_int (pe_cal C_l_many hr (pa_cons (pe_ix ixT (pv 7) pe_int (fun _ _ => rfl)) pa_nil))) pe_int) pa_nil)) (pg_name (i := 10) sc_l_path.nd rfl (Or.inl rfl)) (pss_cons (ps_set (i := 11) sc_l_path.nd rfl (Or.inl rfl) (pe_cal C_l_read hr (pa_cons (pv 0) (pa_cons (pe_tup (pa_cons (pe_ix ixT (pv 7) pe_int (fun _ _ => rfl)) (pa_cons (pe_slice sl_X (pv 8) po_none (po_some (pe_ix ixT (pv 0) pe_int (fun _ _ => rfl)))) pa_nil))) (pa_cons (pe_tup (pa_cons (pv 9) (pa_cons (pv 10) pa_nil))) pa_nil)))))
    (pss_cons (ps_set (i := 12) sc_l_path.nd rfl (Or.inl rfl) (pe_cal C_l_read hr (pa_cons (pv 2) (pa_cons (pe_tup (pa_cons (pe_ix ixT (pv 7) pe_int (fun _ _ => rfl)) (pa_cons (pe_slice sl_X (pv 8) (po_some (pe_ix ixT (pv 0) pe_int (fun _ _ => rfl))) po_none) pa_nil))) (pa_cons (pe_tup (pa_cons (pv 9) (pa_cons (pv 10) pa_nil))) pa_nil)))))
    (pss_cons (ps_if (pt_cmpR (op_neR hu) (pe_ix ixT (pv 11) pe_int (fun _ _ => rfl)) (pe_ix ixT (pv 12) pe_int (fun _ _ => rfl)) (nomark _)) (pss_one (ps_ret (pe_op op_catX (pe_ix ixT (pe_ix ixL (pv 4) (pv 6) (fun _ _ => rfl)) pe_int (fun _ _ => rfl)) (pe_tup (pa_cons (pe_tup (pa_cons (pv 9) (pa_cons (pv 10) pa_nil))) pa_nil))))) pss_nil)
    (pss_cons (ps_set (i := 13) sc_l_path.nd rfl (Or.inl rfl) (pe_tup (pa_cons (pe_ix ixT (pe_ix ixT (pv 11) pe_int (fun _ _ => rfl)) pe_int (fun _ _ => rfl)) (pa_cons (pe_ix ixT (pe_ix ixT (pv 12) pe_int (fun _ _ => rfl)) pe_int (fun _ _ => rfl)) (pa_cons (pe_cal C_l_ranks hr (pa_cons (pe_op op_catX (pe_ix ixT (pe_ix ixT (pv 11) pe_int (fun _ _ => rfl)) pe_int (fun _ _ => rfl)) (pe_ix ixT (pe_ix ixT (pv 12) pe_int (fun _ _ => rfl)) pe_int (fun _ _ => rfl))) pa_nil)) pa_nil)))))
    (pss_one (ps_if (pt_cmpR (op_niD hu) (pv 13) (pv 5) rfl) (pss_cons (ps_asg pe_bl (pg_sub (pv 5) (pv 13) (put_dic hu)))
    (pss_one (ps_expr (pe_lm F.slot_list_append F.type_list_append mt_appL (pv 4) (pa_cons (pe_tup (pa_cons (pv 13) (pa_cons (pe_op op_catX (pe_ix ixT (pe_ix ixL (pv 4) (pv 6) (fun _ _ => rfl)) pe_int (fun _ _ => rfl)) (pe_tup (pa_cons (pe_tup (pa_cons (pv 9) (pa_cons (pv 10) pa_nil))) pa_nil))) pa_nil))) pa_nil))))) pss_nil))))))))))))))
    (pss_one (ps_ret pe_non))))), ?_⟩
  obtain ⟨pm, am, rows, rfl, m1, m2, m3⟩ := rp_m hx
  obtain ⟨pc, ac, rfl, c1, c2⟩ := rp_ct hc
  obtain ⟨pd, ad, rfl, d1, d2⟩ := rp_ct hd
  obtain ⟨J0, hJ0⟩ : ∃ J0, J0 = jt c d := ⟨_, rfl⟩
  have okj0 : okJ m J0 := by rw [hJ0]; exact okJ_jt ok okc okd
  have lc := okc.2
  have ld := okd.2
  wp_walk using c1, c2, d1, d2
  refine ⟨by rw [List.length_map, List.length_map, sizeLine_eq]; omega, fun p0 H0 s0 e0 => ?_⟩
  rw [← List.map_append] at e0
  refine ⟨c.2 ++ d.2, p0, rfl, e0, by rw [List.length_append]; omega, fun p1 H1 s1 e1 => ?_⟩
  wp_walk using u_c
  refine new_tup (ks := [.num c.1, .num d.1, eH (ranks (c.2 ++ d.2))]) (rps_3 rfl rfl (rp_eH.mpr ⟨p1, rfl, e1⟩)) (by simp) fun y1 H2 s2 w2 => ?_
  have w2' : Rp H2 (eJ J0) y1 := by rw [hJ0]; exact w2
  wp_walk using u_c
  refine new_tup (ks := []) rfl (by simp) fun y2 H3 s3 w3 => ?_
  wp_walk using u_c
  refine new_tup (ks := [eJ J0, eLog []]) (rps_2 (w2'.up s3) w3) (by simp) fun y3 H4 s4 w4 => ?_
  refine new_lst (by simp) fun L H5 hL s5 e5 => ?_
  have S5 := ((((s0.trans s1).trans s2).trans s3).trans s4).trans s5
  wp_walk using u_disp
  intro S H6 hS s6 dS
  obtain ⟨p4, u4, v4, rfl, f4, f5, f6⟩ := rp_2 (w4.up (s5.trans s6))
  obtain ⟨pu4, au4, rfl, _, _⟩ := rp_j f5
  wp_walk using s6 _ _ e5, f4
  refine ⟨eJ J0, f5, dep_eJ J0, dS, fun H7 n7 => ?_⟩
  have back : ∀ {H' : Hp} {p : Addr}, Same H H' → H' p = none → H p = none := fun {H' p} s h => by
    cases e : H p with
    | none => rfl
    | some o =>
      rw [s p o e] at h
      cases h
  have L0 : H L = none := back ((((s0.trans s1).trans s2).trans s3).trans s4) hL
  have S0 : H S = none := back S5 hS
  have S7 : Same H H7 := n7.same (S5.trans s6) S0
  have nLS : L ≠ S := dS.lst (s6 _ _ e5)
  have e7 : H7 L = some (.lst [.ref p4]) := by rw [n7.2 L nLS]; exact s6 _ _ e5
  have w7 : Rp H7 (eF (J0, [])) (.ref p4) := Rp.ts (n7.ts dS) _ _ (w4.up (s5.trans s6))
  obtain ⟨Hb, hHb⟩ : ∃ Hb : Hp → List (Jt × Pth) → Prop, Hb = fun H' F => Same H H' ∧ (∃ xs, H' L = some (.lst xs) ∧ Rps H' (F.map eF) xs) ∧ Dic P w H' S ((F.map (·.1)).map eJ) := ⟨_, rfl⟩
  have hb_up : ∀ {H' H'' : Hp} {F : List (Jt × Pth)}, Hb H' F → Same H' H'' → Hb H'' F := fun {H' H'' F} h s => by
    rw [hHb] at h ⊢
    obtain ⟨h1, ⟨xs, h2, h3⟩, h4⟩ := h
    exact ⟨h1.trans s, ⟨xs, s _ _ h2, h3.up s⟩, h4.up s⟩
  wp_walk using u_forR
  refine ⟨⟨by decide, by decide⟩, ?_⟩
  obtain ⟨Pv, hPv⟩ : ∃ Pv : Nat → L2.St → Hp → Prop, Pv = fun n σ H' => ∃ (F : List (Jt × Pth)) (z6 z7 z8 z9 z10 z11 z12 z13 : Option V), σ = [some (.ref pm), some (.ref pc), some (.ref pm), some (.ref pd), some (.ref L), some (.ref S), z6, z7, z8, z9, z10, z11, z12, z13] ∧ Fd m J0 F ∧ Hb H' F ∧ n ≤ F.length ∧
    ∀ (j : Nat) q, j < n → F[j]? = some q → Gone m [] (F.map (·.1)) q.1 := ⟨_, rfl⟩
  refine forR_of (n := 1000000) Pv ?_ ?_ ?_
  · rw [hPv]
    refine ⟨[(J0, [])], _, _, _, _, _, _, _, _, rfl, Fd.one okj0, ?_, Nat.zero_le _, fun j J hj => absurd hj (Nat.not_lt_zero j)⟩
    rw [hHb]
    exact ⟨S7, ⟨_, e7, Rps.one w7⟩, n7.1⟩
  · intro i σ H8 hi hp
    rw [hPv] at hp
    obtain ⟨F, z6, z7, z8, z9, z10, z11, z12, z13, rfl, B, hb, hat, hdn⟩ := hp
    have hb' := hb
    rw [hHb] at hb'
    obtain ⟨S8, ⟨xs, eL, rL⟩, dW⟩ := hb'
    have hxl := rL.length
    rw [List.length_map] at hxl
    have hfew := B.few ok
    wp_walk using eL
    refine ite2 (fun hge => ?_) fun hlt => ?_
    · have hge' : i = F.length := by omega
      have hall : ∀ J ∈ F.map (·.1), Gone m [] (F.map (·.1)) J := fun J hJ => by
        obtain ⟨qq, hq, rfl⟩ := List.mem_map.mp hJ
        obtain ⟨j, hj⟩ := List.mem_iff_getElem?.mp hq
        have hjl := (List.getElem?_eq_some_iff.mp hj).1
        exact hdn j qq (by omega) hj
      have hnev := never_of (fun J hJ => absurd hJ List.not_mem_nil) hall
      refine q none .non H8 ?_ S8 rfl
      show ¬ Parts m (jt c d)
      rw [← hJ0]
      exact hnev J0 B.z
    · have hltn : i < F.length := by omega
      obtain ⟨⟨J, p⟩, hJ⟩ : ∃ q, F[i]? = some q := ⟨_, List.getElem?_eq_getElem hltn⟩
      have hJm := List.mem_of_getElem? hJ
      obtain ⟨okj, hrch, hpl⟩ : okJ m J ∧ Rch m J0 p J ∧ p.length ≤ F.length := B.ok _ hJm
      obtain ⟨xj, hxj, rj⟩ := rL.get (i := i) (k := eF (J, p)) (by rw [List.getElem?_map, hJ]; rfl)
      obtain ⟨pq, u, v, rfl, g1, g2, g3⟩ := rp_2 rj
      obtain ⟨pj, aj, rfl, j1, j2⟩ := rp_j g2
      obtain ⟨pp, ys, rfl, t1, t2⟩ := rp_tup g3
      have hjl := okj.2.2.1
      wp_walk using eL, atI_z, hxj, g1, j1
      refine ⟨J.2.2, aj, rfl, j2, by omega, fun ph H9 s9 e9 => ?_⟩
      have S9 := S8.trans s9
      wp_walk using S9 _ _ m1, u_forR
      refine ⟨⟨by omega, by omega⟩, ?_⟩
      rw [Int.toNat_natCast]
      obtain ⟨Core, hCore⟩ : ∃ Core : List (Jt × Pth) → Hp → Prop, Core = fun F' H' => Fd m J0 F' ∧ Hb H' F' ∧ Rp H' (eJ J) (.ref pj) ∧ H' ph = some (.tup ((shown J.2.2).map vO)) ∧ (∀ (j : Nat) K, j < F.length → F[j]? = some K → F'[j]? = some K) ∧ F.length ≤ F'.length ∧ (∀ K, Gone m [] (F.map (·.1)) K → Gone m [] (F'.map (·.1)) K) := ⟨_, rfl⟩
      obtain ⟨Pt, hPt⟩ : ∃ Pt : Nat → L2.St → Hp → Prop, Pt = fun k σ H' => ∃ (F' : List (Jt × Pth)) (z9 z10 z11 z12 z13 : Option V), σ = [some (.ref pm), some (.ref pc), some (.ref pm), some (.ref pd), some (.ref L), some (.ref S), some (.int i), some (.ref pj), some (.ref ph), z9, z10, z11, z12, z13] ∧ Core F' H' ∧
        ∀ t sp, t < k → spotOk m J t sp → ∃ J' ∈ F'.map (·.1), jstep m J t sp = some J' := ⟨_, rfl⟩
      refine forR_of Pt ?_ ?_ ?_
      · rw [hPt, hCore]
        exact ⟨F, _, _, _, _, _, rfl, ⟨B, hb_up hb s9, g2.up s9, e9, fun _ _ _ h => h, Nat.le_refl _, fun _ h => h⟩, fun t sp ht => absurd ht (Nat.not_lt_zero t)⟩
      · intro k σ H10 hk hp
        rw [hPt] at hp
        obtain ⟨F1, z9, z10, z11, z12, z13, rfl, core, hdt⟩ := hp
        have core' := core
        rw [hCore] at core'
        obtain ⟨_, _, rj10, _⟩ := core'
        obtain ⟨pj', aj', e', j1', j2'⟩ := rp_j rj10
        cases e'
        wp_walk using u_forR, j1'
        refine ⟨J.2.2, aj', rfl, j2', by omega, fun H11 s11 => ?_⟩
        wp_walk using u_forR
        have hmany : many J.2.2 ≤ 4 := by
          have h1 := kn_length J.2.2
          show (kn J.2.2).length ≤ 4
          omega
        refine ⟨.inl ⟨by decide, by decide⟩, ⟨by omega, by omega⟩, ?_⟩
        have hn : (2 * (many J.2.2 : Int) + 1).toNat = 2 * many J.2.2 + 1 := by omega
        rw [hn]
        obtain ⟨Ps, hPs⟩ : ∃ Ps : Nat → L2.St → Hp → Prop, Ps = fun l σ H' => ∃ (F' : List (Jt × Pth)) (z10 z11 z12 z13 : Option V), σ = [some (.ref pm), some (.ref pc), some (.ref pm), some (.ref pd), some (.ref L), some (.ref S), some (.int i), some (.ref pj), some (.ref ph), some (.int k), z10, z11, z12, z13] ∧ Core F' H' ∧
          (∀ t sp, t < k → spotOk m J t sp → ∃ J' ∈ F'.map (·.1), jstep m J t sp = some J') ∧ ∀ sp : Nat, sp < l → ∃ J' ∈ F'.map (·.1), jstep m J k sp = some J' := ⟨_, rfl⟩
        refine forR_of Ps ?_ ?_ ?_
        · rw [hPs]
          refine ⟨F1, _, _, _, _, rfl, ?_, hdt, fun sp h => absurd h (Nat.not_lt_zero sp)⟩
          rw [hCore] at core ⊢
          obtain ⟨a1, a2, a3, a4, a5⟩ := core
          exact ⟨a1, hb_up a2 s11, a3.up s11, s11 _ _ a4, a5⟩
        · intro l σ H12 hl hp
          rw [hPs] at hp
          obtain ⟨F2, z10, z11, z12, z13, rfl, core, hdt2, hds⟩ := hp
          rw [hCore] at core
          obtain ⟨B2, hb2, rj12, eh12, hext, hle, hg⟩ := core
          have hb2' := hb2
          rw [hHb] at hb2'
          obtain ⟨S12, ⟨zs, eL12, rL12⟩, dW12⟩ := hb2'
          have hylen := rL12.length
          rw [List.length_map] at hylen
          have hfew2 := B2.few ok
          have so : spotOk m J k (l : Int) := ⟨hk, by omega, by omega⟩
          have hJF2' := hext i _ hltn hJ
          have hJF2 : (J, p) ∈ F2 := List.mem_of_getElem? hJF2'
          have hpl2 : p.length ≤ F2.length := (B2.ok _ hJF2).2.2
          obtain ⟨pj2, aj2, ej2, k1, k2⟩ := rp_j rj12
          cases ej2
          have hsl : ((shown J.2.2).map vO).length = 2 * m.regs := by rw [List.length_map, shown_length, hjl]
          wp_walk using k1, eh12, S12 _ _ m1
          rw [cut_take (n := m.regs) (by omega)]
          refine fun p13 H13 s13 e13 => ?_
          rw [← List.map_take] at e13
          wp_walk using u_c
          refine new_tup (ks := [.num J.1, eH ((shown J.2.2).take m.regs)]) (rps_2 rfl (rp_eH.mpr ⟨p13, rfl, e13⟩)) (by simp) fun y14 H14 s14 w14 => ?_
          wp_walk using u_c
          refine new_tup (ks := [.num k, .num l]) (rps_2 rfl rfl) (by simp) fun y15 H15 s15 w15 => ?_
          have S15 := ((S12.trans s13).trans s14).trans s15
          refine ⟨m, jOne m J, k, (l : Int), _, y14, y15, rfl, ok, okCt_one okj, hk, hx.up S15, w14.up s15, w15, fun y16 H16 s16 w16 => ?_⟩
          have t16 := ((s13.trans s14).trans s15).trans s16
          have S16 := S12.trans t16
          wp_walk using t16 _ _ k1, t16 _ _ eh12, S16 _ _ m1
          rw [cut_drop (n := m.regs) (by omega)]
          refine fun p17 H17 s17 e17 => ?_
          rw [← List.map_drop] at e17
          wp_walk using u_c
          refine new_tup (ks := [.num J.2.1, eH ((shown J.2.2).drop m.regs)]) (rps_2 rfl (rp_eH.mpr ⟨p17, rfl, e17⟩)) (by simp) fun y18 H18 s18 w18 => ?_
          wp_walk using u_c
          refine new_tup (ks := [.num k, .num l]) (rps_2 rfl rfl) (by simp) fun y19 H19 s19 w19 => ?_
          have S19 := ((S16.trans s17).trans s18).trans s19
          refine ⟨m, jTwo m J, k, (l : Int), _, y18, y19, rfl, ok, okCt_two okj, hk, hx.up S19, w18.up s19, w19, fun y20 H20 s20 w20 => ?_⟩
          have S20 := S19.trans s20
          obtain ⟨q1, u1, v1, rfl, a1, a2, a3⟩ := rp_pair (w16.up (((s17.trans s18).trans s19).trans s20))
          obtain ⟨q2, u2, v2, rfl, b1, b2, b3⟩ := rp_pair w20
          wp_walk using a1, b1
          refine ⟨_, _, a3, b3, noT_eA _, noT_eA _, Nat.le_trans (dep_eA _) (by decide), Nat.le_trans (dep_eA _) (by decide), ?_⟩
          wp_walk using dec_eA
          have t20 : Same H12 H20 := (((t16.trans s17).trans s18).trans s19).trans s20
          have eL20 := t20 _ _ eL12
          have rL20 := rL12.up t20
          have hj2 : jstep m J k (l : Int) = if (rd m (jOne m J) k l).2 = (rd m (jTwo m J) k l).2 then some (jt (rd m (jOne m J) k l).1 (rd m (jTwo m J) k l).1) else none := rfl
          obtain ⟨xq, hxq, rq⟩ := rL20.get (i := i) (k := eF (J, p)) (by rw [List.getElem?_map, hJF2']; rfl)
          obtain ⟨pq2, uq, vq, rfl, g1', g2', g3'⟩ := rp_2 rq
          obtain ⟨pp2, ys2, rfl, t1', t2'⟩ := rp_tup g3'
          have hys : ys2.length = p.length := by
            have := t2'.length
            rw [List.length_map] at this
            exact this
          by_cases e : (rd m (jOne m J) k l).2 = (rd m (jTwo m J) k l).2
          · rw [if_pos e] at hj2
            obtain ⟨J', hJ'⟩ : ∃ J', J' = jt (rd m (jOne m J) k l).1 (rd m (jTwo m J) k l).1 := ⟨_, rfl⟩
            rw [← hJ'] at hj2
            have okc1 : okCt m (rd m (jOne m J) k l).1 := rd_ok ok (okCt_one okj) hk
            have okc2 : okCt m (rd m (jTwo m J) k l).1 := rd_ok ok (okCt_two okj) hk
            obtain ⟨pc1, ac1, rfl, x1, x2⟩ := rp_ct a2
            obtain ⟨pc2, ac2, rfl, x3, x4⟩ := rp_ct b2
            wp_walk using e, not_true, a1, b1, x1, x2, x3, x4
            have lc1 := okc1.2
            have lc2 := okc2.2
            refine ⟨by rw [List.length_map, List.length_map, sizeLine_eq]; omega, fun p21 H21 s21 e21 => ?_⟩
            rw [← List.map_append] at e21
            refine ⟨_, p21, rfl, e21, by rw [List.length_append]; omega, fun p22 H22 s22 e22 => ?_⟩
            wp_walk using u_c
            refine new_tup (ks := [.num (rd m (jOne m J) k l).1.1, .num (rd m (jTwo m J) k l).1.1, eH (ranks ((rd m (jOne m J) k l).1.2 ++ (rd m (jTwo m J) k l).1.2))]) (rps_3 rfl rfl (rp_eH.mpr ⟨p22, rfl, e22⟩)) (by simp) fun y23 H23 s23 w23 => ?_
            have w23' : Rp H23 (eJ J') y23 := by rw [hJ']; exact w23
            have t23 := (s21.trans s22).trans s23
            have S23 := S20.trans t23
            obtain ⟨py, ay, rfl, _, _⟩ := rp_j w23'
            wp_walk using u_c
            have d23 := dW12.up (t20.trans t23)
            refine ⟨S, (F2.map fun z : Jt × Pth => z.1).map eJ, eJ J', rfl, d23, ⟨_, rfl⟩, w23', dep_eJ J', ?_⟩
            have eL23 := t23 _ _ eL20
            by_cases hin2 : J' ∈ F2.map (·.1)
            · wp_walk using mem_eJ, hin2, not_true
              rw [hPs]
              refine ⟨F2, _, _, _, _, rfl, ?_, hdt2, fun sp hsp => ?_⟩
              · rw [hCore]
                exact ⟨B2, hb_up hb2 (t20.trans t23), rj12.up (t20.trans t23), (t20.trans t23) _ _ eh12, hext, hle, hg⟩
              · rcases Nat.lt_succ_iff_lt_or_eq.mp hsp with h | h
                · exact hds sp h
                · rw [h]
                  exact ⟨J', hin2, hj2⟩
            · wp_walk using mem_eJ, hin2, not_false_eq_true, u_gsub
              refine ⟨S, (F2.map fun z : Jt × Pth => z.1).map eJ, eJ J', rfl, d23, ⟨_, rfl⟩, w23', dep_eJ J', by rw [List.length_map, List.length_map]; omega, fun H24 n24 => ?_⟩
              rw [addK_eJ, addJ_not hin2] at n24
              have t24 := n24.ts d23
              have S24 : Same H H24 := n24.same S23 S0
              have eL24 : H24 L = some (.lst zs) := by rw [n24.2 L nLS]; exact eL23
              have q24 := t24 _ _ (t23 _ _ g1')
              have p24 := t24 _ _ (t23 _ _ t1')
              wp_walk using eL24, atI_z, hxq, q24, p24
              refine new_tup (ks := [.num k, .num l]) (rps_2 rfl rfl) (by simp) fun y25 H25 s25 w25 => ?_
              wp_walk using u_c
              refine new_tup (Rps.one w25) (by simp) fun y26 H26 s26 w26 => ?_
              obtain ⟨p26, us, rfl, f1, f2⟩ := w26
              have hus := f2.length
              simp only [List.length_cons, List.length_nil] at hus
              wp_walk using (s25.trans s26) _ _ p24, f1
              refine ⟨by rw [sizeLine_eq]; omega, new_x ((Rps.ts t24 _ _ (t2'.up t23)).up (s25.trans s26) |>.app f2) fun y27 H27 s27 w27 => ?_⟩
              have w27' : Rp H27 (eLog (p ++ [(k, (l : Int))])) y27 := by rw [eLog_app]; exact w27
              have t27 := (s25.trans s26).trans s27
              wp_walk using u_c
              refine new_tup (ks := [eJ J', eLog (p ++ [(k, (l : Int))])]) (rps_2 ((Rp.ts t24 _ _ w23').up t27) w27') (by simp) fun y28 H28 s28 w28 => ?_
              have t28 := t27.trans s28
              have eL28 := t28 _ _ eL24
              wp_walk using eL28
              refine ⟨by rw [sizeLine_eq]; omega, ?_⟩
              have t29 : Tub H28 (upd H28 L (.lst (zs ++ [y28]))) := tub_lst eL28
              rw [hPs]
              refine ⟨F2 ++ [(J', p ++ [(k, (l : Int))])], _, _, _, _, rfl, ?_, fun t sp ht so => ?_, fun sp hsp => ?_⟩
              · rw [hCore, hHb]
                refine ⟨B2.push ok hJF2 so hj2 hin2, ⟨same_lst (S24.trans t28) L0, ⟨_, upd_same, ?_⟩, ?_⟩, Rp.ts t29 _ _ ((Rp.ts t24 _ _ (rj12.up (t20.trans t23))).up t28), ?_, fun j K hj hK => ?_, by rw [List.length_append]; omega, fun K h => ?_⟩
                · rw [List.map_append]
                  exact (Rps.ts t29 _ _ ((Rps.ts t24 _ _ (rL20.up t23)).up t28)).app (Rps.one (Rp.ts t29 _ _ w28))
                · have := (n24.1.up t28).to t29 (upd_ne nLS.symm)
                  rw [List.map_append]
                  exact this
                · exact t29 _ _ (t28 _ _ (t24 _ _ ((t20.trans t23) _ _ eh12)))
                · have := hext j K hj hK
                  rw [List.getElem?_append_left (List.getElem?_eq_some_iff.mp this).1]
                  exact this
                · rw [List.map_append]
                  exact (hg K h).app
              · obtain ⟨K, h1, h2⟩ := hdt2 t sp ht so
                rw [List.map_append]
                exact ⟨K, List.mem_append_left _ h1, h2⟩
              · rw [List.map_append]
                rcases Nat.lt_succ_iff_lt_or_eq.mp hsp with h | h
                · obtain ⟨K, h1, h2⟩ := hds sp h
                  exact ⟨K, List.mem_append_left _ h1, h2⟩
                · rw [h]
                  exact ⟨J', List.mem_append_right _ (List.mem_singleton.mpr rfl), hj2⟩
          · rw [if_neg e] at hj2
            wp_walk using e, not_false_eq_true, eL20, atI_z, hxq, g1', t1'
            refine new_tup (ks := [.num k, .num l]) (rps_2 rfl rfl) (by simp) fun y25 H25 s25 w25 => ?_
            wp_walk using u_c
            refine new_tup (Rps.one w25) (by simp) fun y26 H26 s26 w26 => ?_
            obtain ⟨p26, us, rfl, f1, f2⟩ := w26
            have hus := f2.length
            simp only [List.length_cons, List.length_nil] at hus
            wp_walk using (s25.trans s26) _ _ t1', f1
            refine ⟨by rw [sizeLine_eq]; omega, new_x ((t2'.up (s25.trans s26)).app f2) fun y27 H27 s27 w27 => ?_⟩
            refine q (some (p ++ [(k, (l : Int))])) y27 H27 ⟨?_, ?_⟩ (S20.trans ((s25.trans s26).trans s27)) ?_
            · rw [← hJ0]
              exact (B2.ok _ hJF2).2.1.end_ so hj2
            · rw [List.length_append]
              simp only [List.length_cons, List.length_nil]
              omega
            · show Rp H27 (eLog _) y27
              rw [eLog_app]
              exact w27
        · intro σ H12 hp
          rw [hPs] at hp
          obtain ⟨F2, z10, z11, z12, z13, rfl, core, hdt2, hds⟩ := hp
          rw [hPt]
          refine ⟨F2, _, _, _, _, _, rfl, core, fun t sp ht so => ?_⟩
          rcases Nat.lt_succ_iff_lt_or_eq.mp ht with h | h
          · exact hdt2 t sp h so
          · subst h
            obtain ⟨n, rfl⟩ : ∃ n : Nat, sp = n := ⟨sp.toNat, by have := so.2.1; omega⟩
            have := so.2.2
            exact hds n (by omega)
      · intro σ H10 hp
        rw [hPt] at hp
        obtain ⟨F1, z9, z10, z11, z12, z13, rfl, core, hdt⟩ := hp
        rw [hCore] at core
        obtain ⟨B2, hb2, rj10, eh10, hext, hle, hg⟩ := core
        rw [hPv]
        refine ⟨F1, _, _, _, _, _, _, _, _, rfl, B2, hb2, by omega, fun j K hj hK => ?_⟩
        have hjl : j < F.length := by omega
        obtain ⟨K', hK'⟩ : ∃ K', F[j]? = some K' := ⟨_, List.getElem?_eq_getElem hjl⟩
        have e := hext j K' hjl hK'
        rw [hK] at e
        cases e
        rcases Nat.lt_succ_iff_lt_or_eq.mp hj with h | h
        · exact hg _ (hdn j K h hK')
        · subst h
          rw [hJ] at hK'
          cases hK'
          exact .inr fun t sp so => hdt t sp so.1 so
  · intro σ H8 hp
    rw [hPv] at hp
    obtain ⟨F, z6, z7, z8, z9, z10, z11, z12, z13, rfl, B, hb, hat, hdn⟩ := hp
    have := B.few ok
    omega

end
/-! ### promises: the log that parts -/
def spPl : Sp := fun vs H Q _ => ∃ (a b : Addr) (c : List OI) (o : List Int), vs = [.ref a, .ref b] ∧ H a = some (.lst (c.map vO)) ∧ H b = some (.lst (o.map V.int)) ∧ c.length ≤ 60 ∧ (∀ x ∈ vals c, x ∈ o) ∧ ∀ p H', Same H H' → H' p = some (.tup ((c.map (Option.map (pos o))).map vO)) → Q (.ref p) H'
def spIt : Sp := fun vs H Q _ => ∃ (a b : Addr) (c : List OI) (o : List Int), vs = [.ref a, .ref b] ∧ H a = some (.tup (c.map vO)) ∧ H b = some (.lst (o.map V.int)) ∧ c.length ≤ 60 ∧ (∀ x ∈ vals c, 0 ≤ x ∧ x < o.length) ∧
  ∀ p H', H p = none → Same H H' → H' p = some (.lst ((c.map (Option.map (itm o))).map vO)) → Q (.ref p) H'
def dKN (o ns : List Int) : HO := .dK ((o.zip ns).map fun p => (Sum.inl p.1, V.int p.2))
def spNums : Sp := fun vs H Q _ => ∃ (a b : Addr) (o ks : List Int), vs = [.ref a, .ref b] ∧ H a = some (.lst (o.map V.int)) ∧ H b = some (.lst (ks.map V.int)) ∧ o.Nodup ∧ o.length ≤ 100000 ∧ (0 < ks.length → (0 : Int) ∈ o) ∧ (∀ x ∈ o, 0 ≤ x) ∧
  ∀ p H', H p = none → Same H H' → H' p = some (dKN o (numO ks o)) → Q (.ref p) H'
/-- the place of a value in a list of ints -/
theorem idx_gen {o : List Int} {x : Int} {Q : Int → Prop} (h : x ∈ o) (q : Q (pos o x)) :
    ∃ (j : Nat), (flatV (.int x) = true ∧ (o.map V.int).all flatV = true ∧ (∃ z, (o.map V.int)[j]? = some z ∧ eqV z (.int x) = true) ∧ ∀ m z', m < j → (o.map V.int)[m]? = some z' → eqV z' (.int x) = false) ∧ Q j := by
  have hl := List.idxOf_lt_length_iff.mpr h
  refine ⟨o.idxOf x, ⟨rfl, ?_, ⟨.int x, by rw [List.getElem?_map, List.getElem?_eq_getElem hl, List.getElem_idxOf]; rfl, ?_⟩, fun m z hm hz => ?_⟩, q⟩
  · rw [List.all_map]
    exact List.all_eq_true.mpr fun _ _ => rfl
  · show (x == x) = true
    exact beq_self_eq_true x
  · rw [List.getElem?_map] at hz
    obtain ⟨k, hk, rfl⟩ := Option.map_eq_some_iff.mp hz
    show (k == x) = false
    refine beq_eq_false_iff_ne.mpr fun e => ?_
    subst e
    exact Nat.lt_irrefl _ (Nat.lt_of_lt_of_le hm (idxOf_le_at hk))
theorem itm_val {o : List Int} {r : Int} (h0 : 0 ≤ r) (h1 : r < o.length) : atI (o.map V.int) r = some (.int (itm o r)) := by
  obtain ⟨n, rfl⟩ : ∃ n : Nat, r = n := ⟨r.toNat, by omega⟩
  have hn : n < o.length := by omega
  rw [atI_z, List.getElem?_map, List.getElem?_eq_getElem hn, itm_nat hn]
  rfl
theorem hu1 {n : Nat} (h : n + 64 < cLine) : n + 1 < cLine := by omega
theorem dKN_put {o ns : List Int} {x y : Int} {H : Hp} {D : Addr} (hl : o.length = ns.length) (h : H D = some (dKN o ns)) (hx : x ∉ o) (hz : o.length ≤ 1000000) : DPut H D (.int x) (.int y) (upd H D (dKN (o ++ [x]) (ns ++ [y]))) := by
  have hn : valV ((o.zip ns).map fun p => ((Sum.inl p.1 : Key), V.int p.2)) (Sum.inl x) = none := by
    cases e : valV ((o.zip ns).map fun p => ((Sum.inl p.1 : Key), V.int p.2)) (Sum.inl x) with
    | none => rfl
    | some v =>
      have e2 := valV_any (Sum.inl x : Key) ((o.zip ns).map fun p => ((Sum.inl p.1 : Key), V.int p.2))
      rw [e, Option.isSome_some, List.any_map, List.any_eq_true] at e2
      obtain ⟨p, hp, hd⟩ := e2
      have hd' : (Sum.inl p.1 : Key) = Sum.inl x := of_decide_eq_true hd
      injection hd' with hd'
      exact absurd (List.of_mem_zip hp).1 (by rw [hd']; exact hx)
  have p := DPut.k (k := Sum.inl x) (v := .int y) h (by rw [List.length_map, List.length_zip, sizeLine_eq]; omega)
  rw [putK_new _ hn] at p
  have e : dKN (o ++ [x]) (ns ++ [y]) = .dK ((o.zip ns).map (fun p => ((Sum.inl p.1 : Key), V.int p.2)) ++ [(Sum.inl x, V.int y)]) := by
    unfold dKN
    rw [List.zip_append hl, List.map_append]
    rfl
  rw [e]
  exact p
theorem dKN_get {o ns : List Int} {x : Int} {H : Hp} {D : Addr} (hd : o.Nodup) (hl : o.length = ns.length) (h : H D = some (dKN o ns)) (hx : x ∈ o) : DGet H D (.int x) (some (.int (ns.getD (o.idxOf x) 0))) := by
  have e : valV ((o.zip ns).map fun p => ((Sum.inl p.1 : Key), V.int p.2)) (Sum.inl x) = some (.int (ns.getD (o.idxOf x) 0)) := by
    have key : ∀ (o ns : List Int), o.length = ns.length → x ∈ o → valV ((o.zip ns).map fun p => ((Sum.inl p.1 : Key), V.int p.2)) (Sum.inl x) = some (.int (ns.getD (o.idxOf x) 0)) := by
      intro o
      induction o with
      | nil => intro ns _ h; cases h
      | cons y o ih =>
        intro ns hl hx
        cases ns with
        | nil => cases hl
        | cons z ns =>
          rw [List.zip_cons_cons, List.map_cons]
          by_cases e : y = x
          · rw [valV_pos (by rw [e]), e, List.idxOf_cons_self]
            rfl
          · rw [valV_neg (fun q => e (by injection q)), idxC_ne e, ih ns (by simpa using hl) ((List.mem_cons.mp hx).resolve_left fun q => e q.symm)]
            rfl
    exact key o ns hl hx
  have g := DGet.k (k := Sum.inl x) h
  rw [e] at g
  exact g
section
variable {P : Program} {w : World} {K : PySem.W.Frag} {mg : PySem.Str → Option Value} {base : Heap} {C : Addr}

abbrev N_l_placed_in : List PySem.Str := ["_law_items_here", "_law_order", "_law_item"]
theorem sc_l_placed_in : FnScope N_l_placed_in ["_law_items_here", "_law_order"] (defScope s_l_placed_in) := ⟨rfl, rfl, rfl, by decide +kernel, rfl, by decide +kernel, by decide +kernel⟩
theorem c_l_placed_in (D : Df K mg "_law_placed_in" s_l_placed_in) (T : Tx K mg) : Cal P w K mg base "_law_placed_in" 1 ["_law_items_here", "_law_order"] spPl := by
  refine D.cal sc_l_placed_in (by rintro vs H Q E ⟨_, _, _, _, rfl, _⟩; rfl) (fun _ _ _ _ _ _ us hl => match us, hl with | [_, _], _ => rfl) fun f cdv A outer s H vs Q E hr h => ?_
  have hu : (A.deeper (envOfC "_law_placed_in" (defScope s_l_placed_in) s.heap.objs.size f cdv)).units + 64 < cLine := hr.units
  obtain ⟨a, b, c, o, rfl, ha, hb, hl, hin, q⟩ := h
  refine ⟨_, (pss_one (ps_ret (pe_callTy cr_tupL (by rfl) T.ntuple (by decide +kernel) (pa_cons (pe_lc (own := [("_law_item", 2)]) rfl sc_l_placed_in.nd (pi_list (pv 0)) (blkOk_by (own := [("_law_item", 2)]) (N := N_l_placed_in) (sc := defScope s_l_placed_in) (by decide +kernel)) (fun _ _ _ _ _ => (pg_name (i := 2) sc_l_placed_in.nd rfl (Or.inl rfl))) (fun _ _ _ _ _ => pts_nil) (fun _ _ _ _ _ => (pe_ifExp (pt_cmp (pc_notN (pv 2)) rfl) (pe_lm F.slot_list_index F.type_list_index mt_idxL (pv 1) (pa_cons (pv 2) pa_nil)) pe_non))) pa_nil)))), ?_⟩
  wp_walk using u_lcL
  refine ⟨⟨_, SqL.of ha⟩, lcL_of (R := FlatR vO) (keep := c.map fun x => some (x.map (pos o))) ha flat_tub (by rw [List.length_map, List.length_map]) (by rw [List.length_map]; omega) (fun i x hxi H' C N hS hC hN => ?_) fun D acc H4 s4 hD hacc hA => ?_⟩
  · rw [List.getElem?_map] at hxi
    obtain ⟨y, hy, rfl⟩ := Option.map_eq_some_iff.mp hxi
    cases y with
    | none =>
      wp_walk using vO
      exact hC _ _ none (by rw [List.getElem?_map, hy]; rfl) (Same.refl _) rfl
    | some n =>
      wp_walk using vO, hS _ _ hb
      exact idx_gen (Q := fun z => C (.int z) H') (hin n (mem_vals.mpr (List.mem_of_getElem? hy))) (hC _ _ (some (pos o n)) (by rw [List.getElem?_map, hy]; rfl) (Same.refl _) rfl)
  · rw [fm_some] at hA
    have ea := hA.flat
    subst ea
    wp_walk using hacc
    exact new_tup1V fun p H5 s5 e5 => q p H5 (s4.trans s5) e5

abbrev N_l_items : List PySem.Str := ["_law_held", "_law_order", "_law_place"]
theorem sc_l_items : FnScope N_l_items ["_law_held", "_law_order"] (defScope s_l_items) := ⟨rfl, rfl, rfl, by decide +kernel, rfl, by decide +kernel, by decide +kernel⟩
theorem c_l_items (D : Df K mg "_law_items" s_l_items) (T : Tx K mg) : Cal P w K mg base "_law_items" 1 ["_law_held", "_law_order"] spIt := by
  refine D.cal sc_l_items (by rintro vs H Q E ⟨_, _, _, _, rfl, _⟩; rfl) (fun _ _ _ _ _ _ us hl => match us, hl with | [_, _], _ => rfl) fun f cdv A outer s H vs Q E hr h => ?_
  have hu : (A.deeper (envOfC "_law_items" (defScope s_l_items) s.heap.objs.size f cdv)).units + 64 < cLine := hr.units
  obtain ⟨a, b, c, o, rfl, ha, hb, hl, hin, q⟩ := h
  refine ⟨_, (pss_one (ps_ret (pe_lc (own := [("_law_place", 2)]) rfl sc_l_items.nd (pi_tup (pv 0)) (blkOk_by (own := [("_law_place", 2)]) (N := N_l_items) (sc := defScope s_l_items) (by decide +kernel)) (fun _ _ _ _ _ => (pg_name (i := 2) sc_l_items.nd rfl (Or.inl rfl))) (fun _ _ _ _ _ => pts_nil) (fun _ _ _ _ _ => (pe_ifExp (pt_cmp (pc_notN (pv 2)) rfl) (pe_ix ixL (pv 1) (pv 2) (fun _ _ => rfl)) pe_non))))), ?_⟩
  wp_walk using u_lcT
  refine ⟨⟨_, SqT.of ha⟩, lcT_of (R := FlatR vO) (keep := c.map fun x => some (x.map (itm o))) ha flat_tub (by rw [List.length_map, List.length_map]) (by rw [List.length_map]; omega) (fun i x hxi H' C N hS hC hN => ?_) fun D acc H4 s4 hD hacc hA => ?_⟩
  · rw [List.getElem?_map] at hxi
    obtain ⟨y, hy, rfl⟩ := Option.map_eq_some_iff.mp hxi
    cases y with
    | none =>
      wp_walk using vO
      exact hC _ _ none (by rw [List.getElem?_map, hy]; rfl) (Same.refl _) rfl
    | some n =>
      obtain ⟨h0, h1⟩ := hin n (mem_vals.mpr (List.mem_of_getElem? hy))
      wp_walk using vO, hS _ _ hb, itm_val h0 h1
      exact hC _ _ (some (itm o n)) (by rw [List.getElem?_map, hy]; rfl) (Same.refl _) rfl
  · rw [fm_some] at hA
    have ea := hA.flat
    subst ea
    exact q D H4 hD s4 hacc

abbrev N_l_numbers : List PySem.Str := ["_law_order", "_law_known", "_law_start", "_law_numbers_here", "_law_value", "_law_item"]
theorem sc_l_numbers : FnScope N_l_numbers ["_law_order", "_law_known"] (defScope s_l_numbers) := ⟨rfl, rfl, rfl, by decide +kernel, rfl, by decide +kernel, by decide +kernel⟩
theorem c_l_numbers (D : Df K mg "_law_numbers" s_l_numbers) (T : Tx K mg) : Cal P w K mg base "_law_numbers" 1 ["_law_order", "_law_known"] spNums := by
  refine D.cal sc_l_numbers (by rintro vs H Q E ⟨_, _, _, _, rfl, _⟩; rfl) (fun _ _ _ _ _ _ us hl => match us, hl with | [_, _], _ => rfl) fun f cdv A outer s H vs Q E hr h => ?_
  have hu : (A.deeper (envOfC "_law_numbers" (defScope s_l_numbers) s.heap.objs.size f cdv)).units + 64 < cLine := hr.units
  obtain ⟨a, b, o, ks, rfl, ha, hb, hnd, hl, h0, hnn, q⟩ := h
  refine ⟨_, (pss_cons (ps_set (i := 2) sc_l_numbers.nd rfl (Or.inl rfl) pe_int)
    (pss_cons (ps_if (pt_cmpR op_gt (pe_callB cr_lenL (by rfl) T.nlen (by decide +kernel) (pa_cons (pv 1) pa_nil)) pe_int (nomark _)) (pss_one (ps_set (i := 2) sc_l_numbers.nd rfl (Or.inl rfl) (pe_op op_sub (pe_ix ixL (pv 1) pe_int (fun _ _ => rfl)) (pe_lm F.slot_list_index F.type_list_index mt_idxL (pv 0) (pa_cons pe_int pa_nil))))) pss_nil)
    (pss_cons (ps_set (i := 3) sc_l_numbers.nd rfl (Or.inl rfl) pe_dnewK)
    (pss_cons (ps_set (i := 4) sc_l_numbers.nd rfl (Or.inl rfl) (pe_op op_sub (pv 2) pe_int))
    (pss_cons (ps_for PassesOwn.never rfl (pi_list (pv 0)) (pg_name (i := 5) sc_l_numbers.nd rfl (Or.inl rfl)) (pss_cons (ps_set (i := 4) sc_l_numbers.nd rfl (Or.inl rfl) (pe_op op_add (pv 4) pe_int))
    (pss_cons (ps_if (pt_cmpR op_lt (pv 5) (pe_callB cr_lenL (by rfl) T.nlen (by decide +kernel) (pa_cons (pv 1) pa_nil)) (nomark _)) (pss_one (ps_set (i := 4) sc_l_numbers.nd rfl (Or.inl rfl) (pe_ix ixL (pv 1) (pv 5) (fun _ _ => rfl)))) pss_nil)
    (pss_one (ps_asg (pv 4) (pg_sub (pv 3) (pv 5) (set_dict (hu1 hu))))))))
    (pss_one (ps_ret (pv 3)))))))), ?_⟩
  wp_walk using hb
  refine ite2 (fun hpos => ?_) fun hneg => ?_
  · rw [List.length_map] at hpos
    have hpos' : 0 < ks.length := by omega
    obtain ⟨k0, hk0⟩ : ∃ k0, ks[0]? = some k0 := ⟨_, List.getElem?_eq_getElem hpos'⟩
    have e0 : (ks.map V.int)[0]? = some (.int k0) := by rw [List.getElem?_map, hk0]; rfl
    have es : k0 - pos o 0 = strt ks o := by
      unfold strt pos
      rw [if_pos hpos', List.getD_eq_getElem?_getD, hk0, Option.getD_some]
    wp_walk using e0, ha
    obtain ⟨j, hj, ej⟩ := idx_gen (Q := fun z => z = pos o 0) (h0 hpos') rfl
    refine ⟨j, hj, ?_⟩
    rw [ej, es]
    refine fun D hD => ?_
    wp_walk using u_forL
    obtain ⟨Pv, hPv⟩ : ∃ Pv : Nat → L2.St → Hp → Prop, Pv = fun i σ H' => ∃ z5 : Option V, σ = [some (.ref a), some (.ref b), some (.int (strt ks o)), some (.ref D), some (.int (lastV (strt ks o - 1) (numL ks (strt ks o - 1) (o.take i)))), z5] ∧ Same H H' ∧ H' D = some (dKN (o.take i) (numL ks (strt ks o - 1) (o.take i))) := ⟨_, rfl⟩
    have S1 : Same H (upd H D (.dK [])) := same_new hD
    refine ⟨⟨_, SqL.of (S1 _ _ ha)⟩, forL_of (xs := o.map V.int) Pv ?_ ?_ ?_ ?_⟩
    · rw [hPv]
      exact ⟨_, rfl, S1, upd_same⟩
    · intro i σ H' hi hp
      rw [hPv] at hp
      obtain ⟨z5, rfl, hS, _⟩ := hp
      exact SqL.of (hS _ _ ha)
    · intro i xv σ H' hxi hp
      rw [hPv] at hp
      obtain ⟨z5, rfl, hS, hDv⟩ := hp
      rw [List.getElem?_map] at hxi
      obtain ⟨it, hit, rfl⟩ := Option.map_eq_some_iff.mp hxi
      have hil := (List.getElem?_eq_some_iff.mp hit).1
      have hitm := List.mem_of_getElem? hit
      have hnn' := hnn it hitm
      have ht : o.take (i + 1) = o.take i ++ [it] := by rw [List.take_add_one, hit]; rfl
      have hnot : it ∉ o.take i := fun h => by
        obtain ⟨j, hj, e⟩ := List.mem_take_iff_getElem.mp h
        have h1 := hnd.idxOf_getElem j (by omega)
        have h2 := hnd.idxOf_getElem i hil
        rw [(List.getElem?_eq_some_iff.mp hit).2] at h2
        rw [e] at h1
        omega
      have put : ∀ y : Int, DPut H' D (.int it) (.int y) (upd H' D (dKN (o.take i ++ [it]) (numL ks (strt ks o - 1) (o.take i) ++ [y]))) := fun y => dKN_put (numL_length _ _ _).symm hDv hnot (by rw [List.length_take]; omega)
      have fin : ∀ (y : Int) (z5 : Option V), y = (if it < ks.length then ks.getD it.toNat 0 else lastV (strt ks o - 1) (numL ks (strt ks o - 1) (o.take i)) + 1) → Pv (i + 1) [some (.ref a), some (.ref b), some (.int (strt ks o)), some (.ref D), some (.int y), z5] (upd H' D (dKN (o.take i ++ [it]) (numL ks (strt ks o - 1) (o.take i) ++ [y]))) := fun y z5 hy => by
        rw [hPv]
        have e : numL ks (strt ks o - 1) (o.take (i + 1)) = numL ks (strt ks o - 1) (o.take i) ++ [y] := by rw [ht, numL_snoc, hy]
        refine ⟨z5, by rw [e, lastV_snoc], fun b' ob eb => ?_, by rw [upd_same, e, ht]⟩
        rw [upd_ne (ne_of_none eb hD)]
        exact hS b' ob eb
      wp_walk using hS _ _ hb, u_gsub
      refine ite2 (fun hlt => ?_) fun hge => ?_
      · rw [List.length_map] at hlt
        wp_walk using hS _ _ hb, u_gsub, itm_val hnn' hlt
        exact ⟨D, _, rfl, put _, fin _ _ (by rw [if_pos hlt]; rfl)⟩
      · rw [List.length_map] at hge
        wp_walk using u_gsub
        exact ⟨D, _, rfl, put _, fin _ _ (by rw [if_neg hge])⟩
    · intro σ H' hp
      rw [hPv] at hp
      obtain ⟨z5, rfl, hS, hDv⟩ := hp
      rw [List.length_map, List.take_length] at hDv
      wp_walk using u_c
      exact q D H' hD hS hDv
  · rw [List.length_map] at hneg
    have es : (0 : Int) = strt ks o := by
      unfold strt
      rw [if_neg (by omega)]
    rw [es]
    refine fun D hD => ?_
    wp_walk using u_forL
    obtain ⟨Pv, hPv⟩ : ∃ Pv : Nat → L2.St → Hp → Prop, Pv = fun i σ H' => ∃ z5 : Option V, σ = [some (.ref a), some (.ref b), some (.int (strt ks o)), some (.ref D), some (.int (lastV (strt ks o - 1) (numL ks (strt ks o - 1) (o.take i)))), z5] ∧ Same H H' ∧ H' D = some (dKN (o.take i) (numL ks (strt ks o - 1) (o.take i))) := ⟨_, rfl⟩
    have S1 : Same H (upd H D (.dK [])) := same_new hD
    refine ⟨⟨_, SqL.of (S1 _ _ ha)⟩, forL_of (xs := o.map V.int) Pv ?_ ?_ ?_ ?_⟩
    · rw [hPv]
      exact ⟨_, rfl, S1, upd_same⟩
    · intro i σ H' hi hp
      rw [hPv] at hp
      obtain ⟨z5, rfl, hS, _⟩ := hp
      exact SqL.of (hS _ _ ha)
    · intro i xv σ H' hxi hp
      rw [hPv] at hp
      obtain ⟨z5, rfl, hS, hDv⟩ := hp
      rw [List.getElem?_map] at hxi
      obtain ⟨it, hit, rfl⟩ := Option.map_eq_some_iff.mp hxi
      have hil := (List.getElem?_eq_some_iff.mp hit).1
      have hitm := List.mem_of_getElem? hit
      have hnn' := hnn it hitm
      have ht : o.take (i + 1) = o.take i ++ [it] := by rw [List.take_add_one, hit]; rfl
      have hnot : it ∉ o.take i := fun h => by
        obtain ⟨j, hj, e⟩ := List.mem_take_iff_getElem.mp h
        have h1 := hnd.idxOf_getElem j (by omega)
        have h2 := hnd.idxOf_getElem i hil
        rw [(List.getElem?_eq_some_iff.mp hit).2] at h2
        rw [e] at h1
        omega
      have put : ∀ y : Int, DPut H' D (.int it) (.int y) (upd H' D (dKN (o.take i ++ [it]) (numL ks (strt ks o - 1) (o.take i) ++ [y]))) := fun y => dKN_put (numL_length _ _ _).symm hDv hnot (by rw [List.length_take]; omega)
      have fin : ∀ (y : Int) (z5 : Option V), y = (if it < ks.length then ks.getD it.toNat 0 else lastV (strt ks o - 1) (numL ks (strt ks o - 1) (o.take i)) + 1) → Pv (i + 1) [some (.ref a), some (.ref b), some (.int (strt ks o)), some (.ref D), some (.int y), z5] (upd H' D (dKN (o.take i ++ [it]) (numL ks (strt ks o - 1) (o.take i) ++ [y]))) := fun y z5 hy => by
        rw [hPv]
        have e : numL ks (strt ks o - 1) (o.take (i + 1)) = numL ks (strt ks o - 1) (o.take i) ++ [y] := by rw [ht, numL_snoc, hy]
        refine ⟨z5, by rw [e, lastV_snoc], fun b' ob eb => ?_, by rw [upd_same, e, ht]⟩
        rw [upd_ne (ne_of_none eb hD)]
        exact hS b' ob eb
      wp_walk using hS _ _ hb, u_gsub
      refine ite2 (fun hlt => ?_) fun hge => ?_
      · rw [List.length_map] at hlt
        wp_walk using hS _ _ hb, u_gsub, itm_val hnn' hlt
        exact ⟨D, _, rfl, put _, fin _ _ (by rw [if_pos hlt]; rfl)⟩
      · rw [List.length_map] at hge
        wp_walk using u_gsub
        exact ⟨D, _, rfl, put _, fin _ _ (by rw [if_neg hge])⟩
    · intro σ H' hp
      rw [hPv] at hp
      obtain ⟨z5, rfl, hS, hDv⟩ := hp
      rw [List.length_map, List.take_length] at hDv
      wp_walk using u_c
      exact q D H' hD hS hDv

end
/-! ### promise: parting -/
def gapOk (c d : Ct) : Prop := ∀ j, j + 1 < (kn (c.2 ++ d.2)).length → (kn (c.2 ++ d.2)).getD j 0 + 1000000 < (kn (c.2 ++ d.2)).getD (j + 1) 0
def spParting : Sp := fun vs H Q _ => ∃ (m : Mc) (c d : Ct) (x xc xd : V), vs = [x, xc, x, xd] ∧ okM m ∧ okCt m c ∧ okCt m d ∧ Rp H (eM m) x ∧ Rp H (eCt c) xc ∧ Rp H (eCt d) xd ∧ gapOk c d ∧
  (∀ H', Same H H' → ¬ Parts m (jt c d) → Q .non H') ∧ ∀ lg y H', Same H H' → Parts m (jt c d) → (∀ p ∈ lg, p.1 < m.tags) → lg.length ≤ 100000 → ans m c lg ≠ ans m d lg → Rp H' (eLog lg) y → Q y H'
theorem inV_vO (x : Int) (l : List OI) : inV (.int x) (l.map vO) = decide (some x ∈ l) := by
  induction l with
  | nil => rfl
  | cons o l ih =>
    unfold inV at ih ⊢
    rw [List.map_cons, List.any_cons, ih]
    cases o with
    | none =>
      rw [show eqV (vO none) (.int x) = false from rfl, Bool.false_or]
      exact decide_eq_decide.mpr ⟨fun h => List.mem_cons_of_mem _ h, fun h => (List.mem_cons.mp h).resolve_left fun q => nomatch q⟩
    | some y =>
      rw [show eqV (vO (some y)) (.int x) = (y == x) from rfl, Bool.eq_iff_iff, Bool.or_eq_true, beq_iff_eq, decide_eq_true_iff, decide_eq_true_iff, List.mem_cons]
      constructor
      · rintro (h | h)
        · exact .inl (by rw [h])
        · exact .inr h
      · rintro (h | h)
        · exact .inl (Option.some.inj h).symm
        · exact .inr h
theorem flat_vO (l : List OI) : (l.map vO).all flatV = true := by
  rw [List.all_map]
  refine List.all_eq_true.mpr fun o _ => ?_
  cases o <;> rfl
theorem now_keep (s : St) : (s.o.map fun x => if decide (some x ∈ s.c.2) || decide (some x ∈ s.d.2) then some x else none).filterMap id = nowL s := by
  unfold nowL
  generalize s.o = o
  induction o with
  | nil => rfl
  | cons x o ih =>
    rw [List.map_cons, List.filter_cons]
    by_cases h : (decide (some x ∈ s.c.2) || decide (some x ∈ s.d.2)) = true
    · rw [if_pos h, if_pos h, List.filterMap_cons_some (f := id) (b := x) rfl, ih]
    · rw [if_neg h, if_neg h, List.filterMap_cons_none (f := id) rfl, ih]
structure StH (H : Hp) (O LG SD l1 l3 : Addr) (s : St) : Prop where
  o : H O = some (.lst (s.o.map V.int))
  sd : H SD = some (.lst [.int s.c.1, .ref l1, .int s.d.1, .ref l3])
  c : H l1 = some (.lst (s.c.2.map vO))
  d : H l3 = some (.lst (s.d.2.map vO))
  lg : LT H LG (s.log.map fun q => eE q.1 q.2)
  n1 : O ≠ LG
  n2 : SD ≠ O ∧ SD ≠ LG ∧ l1 ≠ O ∧ l1 ≠ LG ∧ l3 ≠ O ∧ l3 ≠ LG
theorem run_snoc (m : Mc) (s : St) (p : Pth) (i : Nat) (q : Nat × Int) (h : p[i]? = some q) : runS m s (p.take (i + 1)) = stp m (runS m s (p.take i)) q := by
  unfold runS
  rw [List.take_add_one, h, List.foldl_append]
  rfl
theorem run_o_len (m : Mc) (s : St) (p : Pth) (i : Nat) : (runS m s (p.take i)).o.length ≤ s.o.length + p.length := by
  have h := len_run m (p.take i) s
  rw [List.length_take] at h
  omega
theorem run_log_len (m : Mc) (s : St) (p : Pth) (i : Nat) : (runS m s (p.take i)).log.length ≤ s.log.length + p.length := by
  rw [run_log, List.length_append, itms_len, List.length_take]
  omega
theorem u_dget {td ty : TE} {σ : L2.St} {H : Hp} {Q : VK} : tDGet td ty σ H Q = td σ H fun x H1 => ty σ H1 fun y H2 => ∃ a v, x = .ref a ∧ DGet H2 a y (some v) ∧ Q v H2 := rfl
theorem map_ins (o : List Int) (a : Nat) (v : Int) : (o.map V.int).take a ++ [V.int v] ++ (o.map V.int).drop a = (o.take a ++ [v] ++ o.drop a).map V.int := by
  rw [List.map_append, List.map_append, List.map_take, List.map_drop]
  rfl
section
variable {P : Program} {w : World} {K : PySem.W.Frag} {mg : PySem.Str → Option Value} {base : Heap} {C : Addr}

abbrev N_l_parting : List PySem.Str := ["_law_one", "_law_content", "_law_other", "_law_another", "_law_path_here", "_law_known", "_law_order", "_law_sides", "_law_log_here", "_law_tag", "_law_spot", "_law_now", "_law_item", "_law_at_here", "_law_entry", "_law_first", "_law_second", "_law_numbers_here", "_law_value"]
theorem sc_l_parting : FnScope N_l_parting ["_law_one", "_law_content", "_law_other", "_law_another"] (defScope s_l_parting) := ⟨rfl, rfl, rfl, by decide +kernel, rfl, by decide +kernel, by decide +kernel⟩
theorem c_l_parting (D : Df K mg "_law_parting" s_l_parting) (T : Tx K mg) (C_l_path : Cal P w K mg base "_law_path" 7 ["_law_one", "_law_content", "_law_other", "_law_another"] spPath) (C_l_read : Cal P w K mg base "_law_read" 6 ["_law_machine_here", "_law_content", "_law_entry"] spRead) (C_l_placed_in : Cal P w K mg base "_law_placed_in" 1 ["_law_items_here", "_law_order"] spPl) (C_l_items : Cal P w K mg base "_law_items" 1 ["_law_held", "_law_order"] spIt) (C_l_numbers : Cal P w K mg base "_law_numbers" 1 ["_law_order", "_law_known"] spNums) : Cal P w K mg base "_law_parting" 8 ["_law_one", "_law_content", "_law_other", "_law_another"] spParting := by
  refine D.cal sc_l_parting (by rintro vs H Q E ⟨_, _, _, _, _, _, rfl, _⟩; rfl) (fun _ _ _ _ _ _ us hl => match us, hl with | [_, _, _, _], _ => rfl) fun f cdv A outer s H vs Q E hr h => ?_
  have hu : (A.deeper (envOfC "_law_parting" (defScope s_l_parting) s.heap.objs.size f cdv)).units + 64 < cLine := hr.units
  obtain ⟨m, c, d, x, xc, xd, rfl, ok, okc, okd, hx, hc, hd, gap, qN, qL⟩ := h
  have h2 := ok.r2
  refine ⟨_, (pss_cons (ps_set (i := 4) sc_l_parting.nd rfl (Or.inl rfl) (pe_cal C_l_path hr (pa_cons (pv 0) (pa_cons (pv 1) (pa_cons (pv 2) (pa_cons (pv 3) pa_nil))))))
    (pss_cons (ps_if (pt_cmp (pc_isN (pv 4)) rfl) (pss_one (ps_ret pe_non)) pss_nil)
    (pss_cons (ps_set (i := 5) sc_l_parting.nd rfl (Or.inr rfl) (pe_callB (cr_sortedSet rfl) (by rfl) T.nsorted (by decide +kernel) (pa_cons (pe_callTy (cr_setI rfl) (by rfl) T.nset (by decide +kernel) (pa_cons (pe_lc (own := [("_law_value", 18)]) rfl sc_l_parting.nd (pi_tup (pe_op op_catX (pe_ix ixT (pv 1) pe_int (fun _ _ => rfl)) (pe_ix ixT (pv 3) pe_int (fun _ _ => rfl)))) (blkOk_by (own := [("_law_value", 18)]) (N := N_l_parting) (sc := defScope s_l_parting) (by decide +kernel)) (fun _ _ _ _ _ => (pg_name (i := 18) sc_l_parting.nd rfl (Or.inl rfl))) (fun _ _ _ _ _ => (pts_one (pt_cmp (pc_notN (pv 18)) rfl))) (fun _ _ _ _ _ => (pv 18))) pa_nil)) pa_nil)))
    (pss_cons (ps_set (i := 6) sc_l_parting.nd rfl (Or.inl rfl) (pe_lstRg0 rfl (by rfl) T.nlist (by rfl) T.nrange (pe_callB cr_lenL (by rfl) T.nlen (by decide +kernel) (pa_cons (pv 5) pa_nil))))
    (pss_cons (ps_set (i := 7) sc_l_parting.nd rfl (Or.inr rfl) (pe_lst (pa_cons (pe_ix ixT (pv 1) pe_int (fun _ _ => rfl)) (pa_cons (pe_lc (own := [("_law_value", 18)]) rfl sc_l_parting.nd (pi_tup (pe_ix ixT (pv 1) pe_int (fun _ _ => rfl))) (blkOk_by (own := [("_law_value", 18)]) (N := N_l_parting) (sc := defScope s_l_parting) (by decide +kernel)) (fun _ _ _ _ _ => (pg_name (i := 18) sc_l_parting.nd rfl (Or.inl rfl))) (fun _ _ _ _ _ => pts_nil) (fun _ _ _ _ _ => (pe_ifExp (pt_cmp (pc_notN (pv 18)) rfl) (pe_lm F.slot_list_index F.type_list_index mt_idxL (pv 5) (pa_cons (pv 18) pa_nil)) pe_non))) pa_nil))))
    (pss_cons (ps_set (i := 7) sc_l_parting.nd rfl (Or.inr rfl) (pe_op op_cat (pv 7) (pe_lst (pa_cons (pe_ix ixT (pv 3) pe_int (fun _ _ => rfl)) (pa_cons (pe_lc (own := [("_law_value", 18)]) rfl sc_l_parting.nd (pi_tup (pe_ix ixT (pv 3) pe_int (fun _ _ => rfl))) (blkOk_by (own := [("_law_value", 18)]) (N := N_l_parting) (sc := defScope s_l_parting) (by decide +kernel)) (fun _ _ _ _ _ => (pg_name (i := 18) sc_l_parting.nd rfl (Or.inl rfl))) (fun _ _ _ _ _ => pts_nil) (fun _ _ _ _ _ => (pe_ifExp (pt_cmp (pc_notN (pv 18)) rfl) (pe_lm F.slot_list_index F.type_list_index mt_idxL (pv 5) (pa_cons (pv 18) pa_nil)) pe_non))) pa_nil)))))
    (pss_cons (ps_set (i := 8) sc_l_parting.nd rfl (Or.inl rfl) (pe_lst pa_nil))
    (pss_cons (ps_for PassesOwn.never rfl (pi_tup (pv 4)) (pg_tupK (K := K) (n := 2) rfl rfl (pgs_cons (pg_name (i := 9) sc_l_parting.nd rfl (Or.inl rfl)) (pgs_cons (pg_name (i := 10) sc_l_parting.nd rfl (Or.inl rfl)) pgs_nil))) (pss_cons (ps_setLc (i := 11) (own := [("_law_item", 12)]) rfl sc_l_parting.nd rfl rfl (sw_true rfl rfl rfl (by decide +kernel)) (pi_list (pv 6)) (blkOk_by (own := [("_law_item", 12)]) (N := N_l_parting) (sc := defScope s_l_parting) (by decide +kernel)) (fun _ _ _ _ _ => (pg_name (i := 12) sc_l_parting.nd rfl (Or.inl rfl))) (fun _ _ _ _ _ => (pts_one (PW.pt (pw_or (pt_cmpR op_inL (pv 12) (pe_ix ixL (pv 7) pe_int (fun _ _ => rfl)) rfl) (pw_or1 (pt_cmpR op_inL (pv 12) (pe_ix ixL (pv 7) pe_int (fun _ _ => rfl)) rfl)))))) (fun _ _ _ _ _ => (pv 12)))
    (pss_cons (ps_if (pt_cmpR op_eq (pe_op op_mod (pe_callTy cr_int1 (by rfl) T.nint (by decide +kernel) (pa_cons (pv 10) pa_nil)) pe_int) pe_int (nomark _)) (pss_one (ps_set (i := 12) sc_l_parting.nd rfl (Or.inl rfl) (pe_ix ixL (pv 11) (pe_op op_fdiv (pv 10) pe_int) (fun _ _ => rfl)))) (pss_cons (ps_set (i := 12) sc_l_parting.nd rfl (Or.inl rfl) (pe_callB cr_lenL (by rfl) T.nlen (by decide +kernel) (pa_cons (pv 6) pa_nil)))
    (pss_cons (ps_set (i := 13) sc_l_parting.nd rfl (Or.inl rfl) pe_int)
    (pss_cons (ps_if (pt_cmpR op_gt (pv 10) pe_int (nomark _)) (pss_one (ps_set (i := 13) sc_l_parting.nd rfl (Or.inl rfl) (pe_op op_add (pe_lm F.slot_list_index F.type_list_index mt_idxL (pv 6) (pa_cons (pe_ix ixL (pv 11) (pe_op op_sub (pe_op op_fdiv (pv 10) pe_int) pe_int) (fun _ _ => rfl)) pa_nil)) pe_int))) pss_nil)
    (pss_one (ps_expr (pe_lm F.slot_list_insert F.type_list_insert mt_insL (pv 6) (pa_cons (pv 13) (pa_cons (pv 12) pa_nil)))))))))
    (pss_cons (ps_expr (pe_lm F.slot_list_append F.type_list_append mt_appL (pv 8) (pa_cons (pe_tup (pa_cons (pv 9) (pa_cons (pv 12) pa_nil))) pa_nil)))
    (pss_cons (ps_set (i := 14) sc_l_parting.nd rfl (Or.inl rfl) (pe_tup (pa_cons (pv 9) (pa_cons (pe_lm F.slot_list_index F.type_list_index mt_idxL (pv 6) (pa_cons (pv 12) pa_nil)) pa_nil))))
    (pss_cons (ps_set (i := 15) sc_l_parting.nd rfl (Or.inl rfl) (pe_ix ixT (pe_cal C_l_read hr (pa_cons (pv 0) (pa_cons (pe_tup (pa_cons (pe_ix ixL (pv 7) pe_int (fun _ _ => rfl)) (pa_cons (pe_cal C_l_placed_in hr (pa_cons (pe_ix ixL (pv 7) pe_int (fun _ _ => rfl)) (pa_cons (pv 6) pa_nil))) pa_nil))) (pa_cons (pv 14) pa_nil)))) pe_int (fun _ _ => rfl)))
    (pss_cons (ps_set (i := 16) sc_l_parting.nd rfl (Or.inl rfl) (pe_ix ixT (pe_cal C_l_read hr (pa_cons (pv 2) (pa_cons (pe_tup (pa_cons (pe_ix ixL (pv 7) pe_int (fun _ _ => rfl)) (pa_cons (pe_cal C_l_placed_in hr (pa_cons (pe_ix ixL (pv 7) pe_int (fun _ _ => rfl)) (pa_cons (pv 6) pa_nil))) pa_nil))) (pa_cons (pv 14) pa_nil)))) pe_int (fun _ _ => rfl)))
    (pss_one (ps_set (i := 7) sc_l_parting.nd rfl (Or.inr rfl) (pe_lst (pa_cons (pe_ix ixT (pv 15) pe_int (fun _ _ => rfl)) (pa_cons (pe_cal C_l_items hr (pa_cons (pe_ix ixT (pv 15) pe_int (fun _ _ => rfl)) (pa_cons (pv 6) pa_nil))) (pa_cons (pe_ix ixT (pv 16) pe_int (fun _ _ => rfl)) (pa_cons (pe_cal C_l_items hr (pa_cons (pe_ix ixT (pv 16) pe_int (fun _ _ => rfl)) (pa_cons (pv 6) pa_nil))) pa_nil))))))))))))))
    (pss_cons (ps_set (i := 17) sc_l_parting.nd rfl (Or.inr rfl) (pe_cal C_l_numbers hr (pa_cons (pv 6) (pa_cons (pv 5) pa_nil))))
    (pss_one (ps_ret (pe_callTy cr_tupL (by rfl) T.ntuple (by decide +kernel) (pa_cons (pe_lc (own := [("_law_entry", 14)]) rfl sc_l_parting.nd (pi_list (pv 8)) (blkOk_by (own := [("_law_entry", 14)]) (N := N_l_parting) (sc := defScope s_l_parting) (by decide +kernel)) (fun _ _ _ _ _ => (pg_name (i := 14) sc_l_parting.nd rfl (Or.inl rfl))) (fun _ _ _ _ _ => pts_nil) (fun _ _ _ _ _ => (pe_tup (pa_cons (pe_ix ixT (pv 14) pe_int (fun _ _ => rfl)) (pa_cons (pe_dget (hu1 hu) (pv 17) (pe_ix ixT (pv 14) pe_int (fun _ _ => rfl)) (fun _ _ => rfl)) pa_nil))))) pa_nil))))))))))))), ?_⟩
  obtain ⟨pc, ac, rfl, c1, c2⟩ := rp_ct hc
  obtain ⟨pd, ad, rfl, d1, d2⟩ := rp_ct hd
  have lc := okc.2
  have ld := okd.2
  wp_walk using u_c
  refine ⟨m, c, d, x, _, _, rfl, ok, okc, okd, hx, hc, hd, fun o y H1 hpo s1 hy => ?_⟩
  cases o with
  | none =>
    have ey : y = .non := hy
    subst ey
    wp_walk using if_true
    exact qN H1 s1 hpo
  | some p =>
  obtain ⟨hf, hplen⟩ : Fol m (jt c d) p ∧ p.length ≤ 6000 := hpo
  have hyp : Rp H1 (eLog p) y := hy
  obtain ⟨pp, ps, rfl, pp1, pp2⟩ := rp_tup hyp
  wp_walk using if_false, s1 _ _ c1, s1 _ _ c2, s1 _ _ d1, s1 _ _ d2, u_lcT
  refine ⟨by rw [List.length_map, List.length_map, sizeLine_eq]; omega, fun pk0 H2 s2 e2 => ?_⟩
  rw [← List.map_append] at e2
  wp_walk using u_lcT
  refine ⟨⟨_, SqT.of e2⟩, lcT_of (R := FlatR V.int) (keep := c.2 ++ d.2) e2 flat_tub (by rw [List.length_map]) (by rw [List.length_map, List.length_append]; omega) (fun i x hxi H' C N hS hC hN => ?_) fun D acc H3 s3 hD hacc hA => ?_⟩
  · rw [List.getElem?_map] at hxi
    obtain ⟨o, ho, rfl⟩ := Option.map_eq_some_iff.mp hxi
    cases o with
    | none =>
      wp_walk using vO
      exact hN _ ho (Same.refl _)
    | some n =>
      wp_walk using vO
      exact hC _ _ n ho (Same.refl _) rfl
  have ea := hA.flat
  subst ea
  wp_walk using hacc
  have S3 := (s1.trans s2).trans s3
  refine srt_set_of hacc (Nat.le_trans (List.length_filterMap_le _ _) (by rw [List.length_append]; omega)) fun KN H4 s4 hkn0 hkn => ?_
  have hkn : H4 KN = some (.lst ((kn (c.2 ++ d.2)).map V.int)) := hkn
  have S4 := S3.trans s4
  have klen : (kn (c.2 ++ d.2)).length ≤ 4 := by
    have h := kn_length (c.2 ++ d.2)
    rw [List.length_append] at h
    omega
  wp_walk using hkn, u_lstRg
  refine ⟨rgOk_0 (by rw [List.length_map]; omega), new_lst1 fun O H5 hO s5 e5 => ?_⟩
  have eO : H5 O = some (.lst ((st0 c d).o.map V.int)) := by
    rw [e5, List.length_map, rgV_0]
    show _ = some (HO.lst ((rg _).map V.int))
    unfold rg
    rw [List.map_map]
    rfl
  have S5 := S4.trans s5
  wp_walk using S5 _ _ c1, S5 _ _ c2, u_lcT
  refine ⟨⟨_, SqT.of (S5 _ _ c2)⟩, lcT_of (R := FlatR vO) (keep := c.2.map fun o => some (o.map fun v => (rk (kn (c.2 ++ d.2)) v : Int))) (S5 _ _ c2) flat_tub (by rw [List.length_map, List.length_map]) (by rw [List.length_map]; omega) (fun i x hxi H' C N hS hC hN => ?_) fun NL acc' HN sN hN' hacc' hA' => ?_⟩
  · rw [List.getElem?_map] at hxi
    obtain ⟨o, ho, rfl⟩ := Option.map_eq_some_iff.mp hxi
    cases o with
    | none =>
      wp_walk using vO
      exact hC _ _ none (by rw [List.getElem?_map, ho]; rfl) (Same.refl _) rfl
    | some n =>
      wp_walk using vO, hS _ _ (s5 _ _ hkn)
      refine idx_of (Q := fun j => C (V.int j) H') (kn_sorted (c.2 ++ d.2)) (mem_known (.inl (mem_vals.mpr (List.mem_of_getElem? ho)))) ?_
      exact hC _ _ (some (rk (kn (c.2 ++ d.2)) n : Int)) (by rw [List.getElem?_map, ho]; rfl) (Same.refl _) rfl
  rw [fm_some] at hA'
  have ea := hA'.flat
  subst ea
  refine new_lst (by simp) fun SA H7 hSA s7 e7 => ?_
  have S7 := (S5.trans sN).trans s7
  wp_walk using S7 _ _ d1, S7 _ _ d2, u_lcT
  refine ⟨⟨_, SqT.of (S7 _ _ d2)⟩, lcT_of (R := FlatR vO) (keep := d.2.map fun o => some (o.map fun v => (rk (kn (c.2 ++ d.2)) v : Int))) (S7 _ _ d2) flat_tub (by rw [List.length_map, List.length_map]) (by rw [List.length_map]; omega) (fun i x hxi H' C N hS hC hN => ?_) fun L3 acc' H8 s8 hL30 hL3 hA3 => ?_⟩
  · rw [List.getElem?_map] at hxi
    obtain ⟨o, ho, rfl⟩ := Option.map_eq_some_iff.mp hxi
    cases o with
    | none =>
      wp_walk using vO
      exact hC _ _ none (by rw [List.getElem?_map, ho]; rfl) (Same.refl _) rfl
    | some n =>
      wp_walk using vO, hS _ _ (((s5.trans sN).trans s7) _ _ hkn)
      refine idx_of (Q := fun j => C (V.int j) H') (kn_sorted (c.2 ++ d.2)) (mem_known (.inr (mem_vals.mpr (List.mem_of_getElem? ho)))) ?_
      exact hC _ _ (some (rk (kn (c.2 ++ d.2)) n : Int)) (by rw [List.getElem?_map, ho]; rfl) (Same.refl _) rfl
  rw [fm_some] at hA3
  have ea := hA3.flat
  subst ea
  refine new_lst (by simp) fun SB H9 hSB s9 e9 => ?_
  wp_walk using (s8.trans s9) _ _ e7, e9, u_cat
  refine ⟨by rw [sizeLine_eq]; decide, new_lst1 fun SD H10 hSD s10 e10 => ?_⟩
  wp_walk using u_forT
  refine new_lst (by simp) fun LG H11 hLG s11 e11 => ?_
  wp_walk using u_forT
  obtain ⟨HB, hHB⟩ : ∃ HB, HB = H4 := ⟨_, rfl⟩
  have hxB : Rp HB (eM m) x := by rw [hHB]; exact hx.up S4
  have S511 : Same H5 H11 := ((((sN.trans s7).trans s8).trans s9).trans s10).trans s11
  have SB11 : Same HB H11 := by rw [hHB]; exact s5.trans S511
  have O0 : HB O = none := by rw [hHB]; exact hO
  have back : ∀ {H' : Hp} {q : Addr}, Same HB H' → H' q = none → HB q = none := fun {H' q} s h => by
    cases e : HB q with
    | none => rfl
    | some o =>
      rw [s q o e] at h
      cases h
  have LG0 : HB LG = none := back (by rw [hHB]; exact s5.trans ((((sN.trans s7).trans s8).trans s9).trans s10)) hLG
  have hknB : HB KN = some (.lst ((kn (c.2 ++ d.2)).map V.int)) := by rw [hHB]; exact hkn
  have ppB : HB pp = some (.tup ps) := by rw [hHB]; exact ((s2.trans s3).trans s4) _ _ pp1
  have ppsB : Rps HB (p.map fun q => eE q.1 q.2) ps := by rw [hHB]; exact pp2.up ((s2.trans s3).trans s4)
  have hpsl := pp2.length
  rw [List.length_map] at hpsl
  have s0len : (st0 c d).o.length = (kn (c.2 ++ d.2)).length := rg_length _
  obtain ⟨Pv, hPv⟩ : ∃ Pv : Nat → L2.St → Hp → Prop, Pv = fun i σ H' => ∃ (l1 l3 SD : Addr) (z9 z10 z11 z12 z13 z14 z15 z16 : Option V), σ = [some x, some (.ref pc), some x, some (.ref pd), some (.ref pp), some (.ref KN), some (.ref O), some (.ref SD), some (.ref LG), z9, z10, z11, z12, z13, z14, z15, z16, none, none] ∧ Same HB H' ∧
    StH H' O LG SD l1 l3 (runS m (st0 c d) (p.take i)) ∧ Good m (runS m (st0 c d) (p.take i)) ∧ (p.drop i = [] ∨ Fol m (jts (runS m (st0 c d) (p.take i))) (p.drop i)) := ⟨_, rfl⟩
  refine ⟨⟨_, SqT.of (SB11 _ _ ppB)⟩, forT_of (xs := ps) Pv ?_ ?_ ?_ ?_⟩
  · rw [hPv]
    have eO11 := S511 _ _ eO
    refine ⟨NL, L3, SD, _, _, _, _, _, _, _, _, rfl, SB11, ⟨eO11, s11 _ _ e10, ?_, ?_, ⟨_, e11, rfl⟩, ne_lst hLG (((((sN.trans s7).trans s8).trans s9).trans s10) _ _ eO), ?_⟩, st0_good okc okd, .inr ?_⟩
    · exact ((((s7.trans s8).trans s9).trans s10).trans s11) _ _ hacc'
    · exact ((s9.trans s10).trans s11) _ _ hL3
    · exact ⟨(ne_lst hSD ((((sN.trans s7).trans s8).trans s9) _ _ eO)).symm, ne_lst hLG e10, (ne_lst hN' eO).symm, ne_lst hLG ((((s7.trans s8).trans s9).trans s10) _ _ hacc'), (ne_lst hL30 ((sN.trans s7) _ _ eO)).symm, ne_lst hLG ((s9.trans s10) _ _ hL3)⟩
    · show Fol m (jts (st0 c d)) p
      rw [st0_jts]
      exact hf
  · intro i σ H6 hi hp
    rw [hPv] at hp
    obtain ⟨l1, l3, SD, z9, z10, z11, z12, z13, z14, z15, z16, rfl, S6, _⟩ := hp
    exact S6 _ _ ppB
  · intro i xp σ H6 hxi hp
    rw [hPv] at hp
    obtain ⟨l1, l3, SD, z9, z10, z11, z12, z13, z14, z15, z16, rfl, S6, hs, gd, hfol⟩ := hp
    obtain ⟨kq, hk1, hk2⟩ := (ppsB.up S6).get2 hxi
    rw [List.getElem?_map] at hk1
    obtain ⟨⟨t, sp⟩, hpi, rfl⟩ := Option.map_eq_some_iff.mp hk1
    obtain ⟨pq, rfl, hpq⟩ := rp_e hk2
    have holen0 := run_o_len m (st0 c d) p i
    have hllen0 := run_log_len m (st0 c d) p i
    obtain ⟨s, hs'⟩ : ∃ s, s = runS m (st0 c d) (p.take i) := ⟨_, rfl⟩
    rw [← hs'] at hs gd hfol holen0 hllen0
    have hil := (List.getElem?_eq_some_iff.mp hpi).1
    have hdrop : p.drop i = (t, sp) :: p.drop (i + 1) := by rw [List.drop_eq_getElem_cons hil, (List.getElem?_eq_some_iff.mp hpi).2]
    rw [hdrop] at hfol
    obtain ⟨so, hf2⟩ : Fol m (jts s) ((t, sp) :: p.drop (i + 1)) := hfol.resolve_left (fun h => nomatch h)
    obtain ⟨sp0, sp1⟩ := jts_spot gd so
    have htag := so.1
    have hpick := pick_mem gd sp0 sp1
    have ic : ∀ x ∈ vals s.c.2, x ∈ ordI s sp := fun x hx => (ord_sub s sp).subset (gd.ic x hx)
    have id : ∀ x ∈ vals s.d.2, x ∈ ordI s sp := fun x hx => (ord_sub s sp).subset (gd.id x hx)
    have hnext : p.drop (i + 1) = [] ∨ Fol m (jts (stp m s (t, sp))) (p.drop (i + 1)) := by
      rcases hf2 with ⟨e, _⟩ | ⟨J', e, hf⟩
      · exact .inl e
      · rw [stp_jts gd so.1 sp0 sp1] at e
        split at e
        · cases e
          exact .inr hf
        · cases e
    have holen : s.o.length ≤ 6004 := by omega
    have hllen : s.log.length ≤ 6000 := by
      have : (st0 c d).log.length = 0 := rfl
      omega
    have hnow : (nowL s).length ≤ 6004 := Nat.le_trans (now_sub s).length_le holen
    obtain ⟨zs, aLG0, rLG0⟩ := hs.lg
    have hzs := rLG0.length
    rw [List.length_map] at hzs
    refine gtup_of hpq rfl ?_
    wp_walk using u_lcL
    refine ⟨⟨_, SqL.of hs.o⟩, lcL_of (R := FlatR V.int) (keep := s.o.map fun x => if decide (some x ∈ s.c.2) || decide (some x ∈ s.d.2) then some x else none) hs.o flat_tub (by rw [List.length_map, List.length_map]) (by rw [List.length_map]; omega) (fun j xv hxj H' C N hS hC hN => ?_) fun NW acc H7 s7' hNW hacc7 hA7 => ?_⟩
    · rw [List.getElem?_map] at hxj
      obtain ⟨o, ho, rfl⟩ := Option.map_eq_some_iff.mp hxj
      have keep1 : (decide (some o ∈ s.c.2) || decide (some o ∈ s.d.2)) = true → C (.int o) H' := fun h => hC _ _ o (by rw [List.getElem?_map, ho, Option.map_some, if_pos h]) (Same.refl _) rfl
      have keep2 : ¬ (decide (some o ∈ s.c.2) || decide (some o ∈ s.d.2)) = true → N H' := fun h => hN _ (by rw [List.getElem?_map, ho, Option.map_some, if_neg h]) (Same.refl _)
      wp_walk using hS _ _ hs.sd, hS _ _ hs.c, hS _ _ hs.d, inV_vO, flat_vO, flatV
      by_cases h1 : some o ∈ s.c.2
      · rw [if_pos h1]
        exact keep1 (by simp [h1])
      · rw [if_neg h1]
        by_cases h2 : some o ∈ s.d.2
        · rw [if_pos h2]
          exact keep1 (by simp [h2])
        · rw [if_neg h2]
          exact keep2 (by simp [h1, h2])
    have ea := hA7.flat
    rw [show (s.o.map fun x => if decide (some x ∈ s.c.2) || decide (some x ∈ s.d.2) then some x else none).filterMap _root_.id = nowL s from now_keep s] at ea
    subst ea
    have S7' := S6.trans s7'
    wp_walk using s7' _ _ hs.o, hacc7
    refine ⟨by decide, ite2 (fun hodd => ?_) fun heven => ?_⟩
    · refine ⟨⟨by decide, by decide⟩, _, itm_val (o := nowL s) (r := sp / 2) (by omega) (by omega), ?_⟩
      have ei : itm (nowL s) (sp / 2) = pickI s sp := by
        unfold pickI
        rw [if_pos hodd]
        rfl
      rw [ei]
      have eo : ordI s sp = s.o := by
        unfold ordI
        rw [if_pos hodd]
      have aO : H7 O = some (.lst ((ordI s sp).map V.int)) := by
        rw [eo]
        exact s7' _ _ hs.o
      have aSD := s7' _ _ hs.sd
      have a1 := s7' _ _ hs.c
      have a3 := s7' _ _ hs.d
      have aLG := s7' _ _ aLG0
      have rLG := rLG0.up s7'
      have S2 := S7'
      wp_walk using aO, aSD, aLG
      refine new_tup (ks := [.num t, .num (pickI s sp)]) (rps_2 rfl rfl) (by simp) fun y3 H3 s3 w3 => ?_
      have e3 := s3 _ _ aLG
      wp_walk using e3
      refine ⟨by rw [sizeLine_eq]; omega, ?_⟩
      obtain ⟨H4, hH4⟩ : ∃ H4, H4 = upd H3 LG (.lst (zs ++ [y3])) := ⟨_, rfl⟩
      have t4 : Tub H3 H4 := by rw [hH4]; exact tub_lst e3
      have S4 : Same HB H4 := by rw [hH4]; exact same_lst (S2.trans s3) LG0
      have keep4 : ∀ b o, H7 b = some o → b ≠ LG → H4 b = some o := fun b o e hb => by rw [hH4, upd_ne hb]; exact s3 _ _ e
      have bO := keep4 _ _ aO hs.n1
      have bSD := keep4 _ _ aSD hs.n2.2.1
      have b1 := keep4 _ _ a1 hs.n2.2.2.2.1
      have b3 := keep4 _ _ a3 hs.n2.2.2.2.2.2
      have bLG : LT H4 LG ((s.log ++ [(t, pickI s sp)]).map fun q => eE q.1 q.2) := by
        rw [hH4, List.map_append]
        exact LT.push e3 (Rps.ts (Tub.of s3) _ _ rLG) w3
      rw [← hH4]
      clear hH4
      wp_walk using bO
      obtain ⟨j, hj, ej⟩ := idx_gen (Q := fun z => z = pos (ordI s sp) (pickI s sp)) hpick rfl
      refine ⟨j, hj, ?_⟩
      rw [ej]
      refine new_tup (ks := [.num t, .num (pos (ordI s sp) (pickI s sp))]) (rps_2 rfl rfl) (by simp) fun y5 H5 s5 w5 => ?_
      wp_walk using s5 _ _ bSD
      refine ⟨l1, O, s.c.2, ordI s sp, rfl, s5 _ _ b1, s5 _ _ bO, by have := gd.oc.2; omega, ic, fun p6 H6 s6 e6 => ?_⟩
      wp_walk using u_c
      refine new_tup (ks := [.num s.c.1, eH (s.c.2.map (Option.map (pos (ordI s sp))))]) (rps_2 rfl (rp_eH.mpr ⟨p6, rfl, e6⟩)) (by simp) fun y7 H7 s7 w7 => ?_
      have S47 := (s5.trans s6).trans s7
      refine ⟨m, mapC (pos (ordI s sp)) s.c, t, pos (ordI s sp) (pickI s sp), x, y7, y5, rfl, ok, okCt_map gd.oc, htag, hxB.up (S4.trans S47), w7, w5.up (s6.trans s7), fun y8 H8 s8 w8 => ?_⟩
      obtain ⟨p8, u8, v8, rfl, f8, r8, _⟩ := rp_pair w8
      obtain ⟨pc8, ac8, rfl, g8, g8'⟩ := rp_ct r8
      have S48 := S47.trans s8
      wp_walk using f8, S48 _ _ bSD
      refine ⟨l3, O, s.d.2, ordI s sp, rfl, S48 _ _ b3, S48 _ _ bO, by have := gd.od.2; omega, id, fun p9 H9 s9 e9 => ?_⟩
      wp_walk using u_c
      refine new_tup (ks := [.num s.d.1, eH (s.d.2.map (Option.map (pos (ordI s sp))))]) (rps_2 rfl (rp_eH.mpr ⟨p9, rfl, e9⟩)) (by simp) fun y10 H10 s10 w10 => ?_
      have S810 := s9.trans s10
      have S410 := S48.trans S810
      refine ⟨m, mapC (pos (ordI s sp)) s.d, t, pos (ordI s sp) (pickI s sp), x, y10, y5, rfl, ok, okCt_map gd.od, htag, hxB.up (S4.trans S410), w10, w5.up (((s6.trans s7).trans s8).trans S810), fun y11 H11 s11 w11 => ?_⟩
      obtain ⟨p11, u11, v11, rfl, f11, r11, _⟩ := rp_pair w11
      obtain ⟨pc11, ac11, rfl, g11, g11'⟩ := rp_ct r11
      have S811 := S810.trans s11
      have S411 := S48.trans S811
      have hpc := rd_pos (m := m) (t := t) ic hpick
      have hpd := rd_pos (m := m) (t := t) id hpick
      have okc1 : okCt m (rd m (mapC (pos (ordI s sp)) s.c) t (pos (ordI s sp) (pickI s sp))).1 := rd_ok ok (okCt_map gd.oc) htag
      have okc2 : okCt m (rd m (mapC (pos (ordI s sp)) s.d) t (pos (ordI s sp) (pickI s sp))).1 := rd_ok ok (okCt_map gd.od) htag
      wp_walk using f11, S811 _ _ g8, S811 _ _ g8', g11, g11'
      refine ⟨ac8, O, _, ordI s sp, rfl, S811 _ _ g8', S411 _ _ bO, by have := okc1.2; omega, hpc, fun l1' H12 h12 s12 e12 => ?_⟩
      wp_walk using s12 _ _ f11, (S811.trans s12) _ _ g8, s12 _ _ g11, s12 _ _ g11'
      refine ⟨ac11, O, _, ordI s sp, rfl, s12 _ _ g11', (S411.trans s12) _ _ bO, by have := okc2.2; omega, hpd, fun l3' H13 h13 s13 e13 => ?_⟩
      wp_walk using u_c
      refine new_lst (by simp) fun SD' H14 h14 s14 e14 => ?_
      have S414 := ((S411.trans s12).trans s13).trans s14
      rw [hPv]
      have oLG := bLG.choose_spec.1
      refine ⟨l1', l3', SD', _, _, _, _, _, _, _, _, rfl, S4.trans S414, ⟨?_, ?_, ?_, ?_, ?_, hs.n1, ?_⟩, ?_, ?_⟩
      · rw [run_snoc m _ p i _ hpi, ← hs']
        exact S414 _ _ bO
      · rw [run_snoc m _ p i _ hpi, ← hs']
        exact e14
      · rw [run_snoc m _ p i _ hpi, ← hs']
        exact (s13.trans s14) _ _ e12
      · rw [run_snoc m _ p i _ hpi, ← hs']
        exact s14 _ _ e13
      · rw [run_snoc m _ p i _ hpi, ← hs']
        exact bLG.up S414
      · exact ⟨(ne_lst h14 (((S411.trans s12).trans s13) _ _ bO)).symm, (ne_lst h14 (((S411.trans s12).trans s13) _ _ oLG)).symm, (ne_lst h12 (S411 _ _ bO)).symm, (ne_lst h12 (S411 _ _ oLG)).symm, (ne_lst h13 ((S411.trans s12) _ _ bO)).symm, (ne_lst h13 ((S411.trans s12) _ _ oLG)).symm⟩
      · rw [run_snoc m _ p i _ hpi, ← hs']
        exact stp_good ok gd htag sp0 sp1
      · rw [run_snoc m _ p i _ hpi, ← hs']
        exact hnext
    · have ei : ((s.o.map V.int).length : Int) = pickI s sp := by
        unfold pickI
        rw [if_neg heven, List.length_map]
      refine ite2 (fun hpos => ?_) fun hnp => ?_
      · refine ⟨⟨by decide, by decide⟩, _, itm_val (o := nowL s) (r := sp / 2 - 1) (by omega) (by omega), ?_⟩
        have hm : itm (nowL s) (sp / 2 - 1) ∈ s.o := now_o (itm_mem (by omega) (by omega))
        obtain ⟨j, hj, ej⟩ := idx_gen (Q := fun z => z = pos s.o (itm (nowL s) (sp / 2 - 1))) hm rfl
        refine ⟨j, hj, ?_⟩
        have ep : j + 1 = pickO s sp := by
          unfold pickO
          rw [if_pos hpos]
          unfold pos itm at ej
          omega
        have hple := pickO_le gd sp1
        wp_walk using u_insL, s7' _ _ hs.o
        refine ⟨_, _, ⟨rfl, rfl⟩, ⟨by rw [List.length_map, sizeLine_eq]; omega, by omega, by omega⟩, ?_⟩
        rw [ei, show ((j : Int) + 1).toNat = pickO s sp by omega, map_ins]
        have eo : s.o.take (pickO s sp) ++ [pickI s sp] ++ s.o.drop (pickO s sp) = ordI s sp := by
          unfold ordI
          rw [if_neg heven]
          unfold pickI
          rw [if_neg heven]
        rw [eo]
        obtain ⟨H2, hH2⟩ : ∃ H2, H2 = upd H7 O (.lst ((ordI s sp).map V.int)) := ⟨_, rfl⟩
        rw [← hH2]
        have oo7 := s7' _ _ hs.o
        have aO : H2 O = some (.lst ((ordI s sp).map V.int)) := by rw [hH2, upd_same]
        have aSD : H2 SD = some (.lst [.int s.c.1, .ref l1, .int s.d.1, .ref l3]) := by rw [hH2, upd_ne hs.n2.1]; exact s7' _ _ hs.sd
        have a1 : H2 l1 = some (.lst (s.c.2.map vO)) := by rw [hH2, upd_ne hs.n2.2.2.1]; exact s7' _ _ hs.c
        have a3 : H2 l3 = some (.lst (s.d.2.map vO)) := by rw [hH2, upd_ne hs.n2.2.2.2.2.1]; exact s7' _ _ hs.d
        have aLG : H2 LG = some (.lst zs) := by rw [hH2, upd_ne hs.n1.symm]; exact s7' _ _ aLG0
        have rLG : Rps H2 (s.log.map fun q => eE q.1 q.2) zs := by rw [hH2]; exact Rps.ts (tub_lst oo7) _ _ (rLG0.up s7')
        have S2 : Same HB H2 := by rw [hH2]; exact same_lst S7' O0
        clear hH2
        wp_walk using aO, aSD, aLG
        refine new_tup (ks := [.num t, .num (pickI s sp)]) (rps_2 rfl rfl) (by simp) fun y3 H3 s3 w3 => ?_
        have e3 := s3 _ _ aLG
        wp_walk using e3
        refine ⟨by rw [sizeLine_eq]; omega, ?_⟩
        obtain ⟨H4, hH4⟩ : ∃ H4, H4 = upd H3 LG (.lst (zs ++ [y3])) := ⟨_, rfl⟩
        have t4 : Tub H3 H4 := by rw [hH4]; exact tub_lst e3
        have S4 : Same HB H4 := by rw [hH4]; exact same_lst (S2.trans s3) LG0
        have keep4 : ∀ b o, H2 b = some o → b ≠ LG → H4 b = some o := fun b o e hb => by rw [hH4, upd_ne hb]; exact s3 _ _ e
        have bO := keep4 _ _ aO hs.n1
        have bSD := keep4 _ _ aSD hs.n2.2.1
        have b1 := keep4 _ _ a1 hs.n2.2.2.2.1
        have b3 := keep4 _ _ a3 hs.n2.2.2.2.2.2
        have bLG : LT H4 LG ((s.log ++ [(t, pickI s sp)]).map fun q => eE q.1 q.2) := by
          rw [hH4, List.map_append]
          exact LT.push e3 (Rps.ts (Tub.of s3) _ _ rLG) w3
        rw [← hH4]
        clear hH4
        wp_walk using bO
        obtain ⟨j, hj, ej⟩ := idx_gen (Q := fun z => z = pos (ordI s sp) (pickI s sp)) hpick rfl
        refine ⟨j, hj, ?_⟩
        rw [ej]
        refine new_tup (ks := [.num t, .num (pos (ordI s sp) (pickI s sp))]) (rps_2 rfl rfl) (by simp) fun y5 H5 s5 w5 => ?_
        wp_walk using s5 _ _ bSD
        refine ⟨l1, O, s.c.2, ordI s sp, rfl, s5 _ _ b1, s5 _ _ bO, by have := gd.oc.2; omega, ic, fun p6 H6 s6 e6 => ?_⟩
        wp_walk using u_c
        refine new_tup (ks := [.num s.c.1, eH (s.c.2.map (Option.map (pos (ordI s sp))))]) (rps_2 rfl (rp_eH.mpr ⟨p6, rfl, e6⟩)) (by simp) fun y7 H7 s7 w7 => ?_
        have S47 := (s5.trans s6).trans s7
        refine ⟨m, mapC (pos (ordI s sp)) s.c, t, pos (ordI s sp) (pickI s sp), x, y7, y5, rfl, ok, okCt_map gd.oc, htag, hxB.up (S4.trans S47), w7, w5.up (s6.trans s7), fun y8 H8 s8 w8 => ?_⟩
        obtain ⟨p8, u8, v8, rfl, f8, r8, _⟩ := rp_pair w8
        obtain ⟨pc8, ac8, rfl, g8, g8'⟩ := rp_ct r8
        have S48 := S47.trans s8
        wp_walk using f8, S48 _ _ bSD
        refine ⟨l3, O, s.d.2, ordI s sp, rfl, S48 _ _ b3, S48 _ _ bO, by have := gd.od.2; omega, id, fun p9 H9 s9 e9 => ?_⟩
        wp_walk using u_c
        refine new_tup (ks := [.num s.d.1, eH (s.d.2.map (Option.map (pos (ordI s sp))))]) (rps_2 rfl (rp_eH.mpr ⟨p9, rfl, e9⟩)) (by simp) fun y10 H10 s10 w10 => ?_
        have S810 := s9.trans s10
        have S410 := S48.trans S810
        refine ⟨m, mapC (pos (ordI s sp)) s.d, t, pos (ordI s sp) (pickI s sp), x, y10, y5, rfl, ok, okCt_map gd.od, htag, hxB.up (S4.trans S410), w10, w5.up (((s6.trans s7).trans s8).trans S810), fun y11 H11 s11 w11 => ?_⟩
        obtain ⟨p11, u11, v11, rfl, f11, r11, _⟩ := rp_pair w11
        obtain ⟨pc11, ac11, rfl, g11, g11'⟩ := rp_ct r11
        have S811 := S810.trans s11
        have S411 := S48.trans S811
        have hpc := rd_pos (m := m) (t := t) ic hpick
        have hpd := rd_pos (m := m) (t := t) id hpick
        have okc1 : okCt m (rd m (mapC (pos (ordI s sp)) s.c) t (pos (ordI s sp) (pickI s sp))).1 := rd_ok ok (okCt_map gd.oc) htag
        have okc2 : okCt m (rd m (mapC (pos (ordI s sp)) s.d) t (pos (ordI s sp) (pickI s sp))).1 := rd_ok ok (okCt_map gd.od) htag
        wp_walk using f11, S811 _ _ g8, S811 _ _ g8', g11, g11'
        refine ⟨ac8, O, _, ordI s sp, rfl, S811 _ _ g8', S411 _ _ bO, by have := okc1.2; omega, hpc, fun l1' H12 h12 s12 e12 => ?_⟩
        wp_walk using s12 _ _ f11, (S811.trans s12) _ _ g8, s12 _ _ g11, s12 _ _ g11'
        refine ⟨ac11, O, _, ordI s sp, rfl, s12 _ _ g11', (S411.trans s12) _ _ bO, by have := okc2.2; omega, hpd, fun l3' H13 h13 s13 e13 => ?_⟩
        wp_walk using u_c
        refine new_lst (by simp) fun SD' H14 h14 s14 e14 => ?_
        have S414 := ((S411.trans s12).trans s13).trans s14
        rw [hPv]
        have oLG := bLG.choose_spec.1
        refine ⟨l1', l3', SD', _, _, _, _, _, _, _, _, rfl, S4.trans S414, ⟨?_, ?_, ?_, ?_, ?_, hs.n1, ?_⟩, ?_, ?_⟩
        · rw [run_snoc m _ p i _ hpi, ← hs']
          exact S414 _ _ bO
        · rw [run_snoc m _ p i _ hpi, ← hs']
          exact e14
        · rw [run_snoc m _ p i _ hpi, ← hs']
          exact (s13.trans s14) _ _ e12
        · rw [run_snoc m _ p i _ hpi, ← hs']
          exact s14 _ _ e13
        · rw [run_snoc m _ p i _ hpi, ← hs']
          exact bLG.up S414
        · exact ⟨(ne_lst h14 (((S411.trans s12).trans s13) _ _ bO)).symm, (ne_lst h14 (((S411.trans s12).trans s13) _ _ oLG)).symm, (ne_lst h12 (S411 _ _ bO)).symm, (ne_lst h12 (S411 _ _ oLG)).symm, (ne_lst h13 ((S411.trans s12) _ _ bO)).symm, (ne_lst h13 ((S411.trans s12) _ _ oLG)).symm⟩
        · rw [run_snoc m _ p i _ hpi, ← hs']
          exact stp_good ok gd htag sp0 sp1
        · rw [run_snoc m _ p i _ hpi, ← hs']
          exact hnext
      · wp_walk using u_insL, s7' _ _ hs.o
        refine ⟨_, _, ⟨rfl, rfl⟩, ⟨by rw [List.length_map, sizeLine_eq]; omega, by decide, by decide⟩, ?_⟩
        have ep : (0 : Int).toNat = pickO s sp := by
          unfold pickO
          rw [if_neg hnp]
          rfl
        rw [ei, ep, map_ins]
        have eo : s.o.take (pickO s sp) ++ [pickI s sp] ++ s.o.drop (pickO s sp) = ordI s sp := by
          unfold ordI
          rw [if_neg heven]
          unfold pickI
          rw [if_neg heven]
        rw [eo]
        obtain ⟨H2, hH2⟩ : ∃ H2, H2 = upd H7 O (.lst ((ordI s sp).map V.int)) := ⟨_, rfl⟩
        rw [← hH2]
        have oo7 := s7' _ _ hs.o
        have aO : H2 O = some (.lst ((ordI s sp).map V.int)) := by rw [hH2, upd_same]
        have aSD : H2 SD = some (.lst [.int s.c.1, .ref l1, .int s.d.1, .ref l3]) := by rw [hH2, upd_ne hs.n2.1]; exact s7' _ _ hs.sd
        have a1 : H2 l1 = some (.lst (s.c.2.map vO)) := by rw [hH2, upd_ne hs.n2.2.2.1]; exact s7' _ _ hs.c
        have a3 : H2 l3 = some (.lst (s.d.2.map vO)) := by rw [hH2, upd_ne hs.n2.2.2.2.2.1]; exact s7' _ _ hs.d
        have aLG : H2 LG = some (.lst zs) := by rw [hH2, upd_ne hs.n1.symm]; exact s7' _ _ aLG0
        have rLG : Rps H2 (s.log.map fun q => eE q.1 q.2) zs := by rw [hH2]; exact Rps.ts (tub_lst oo7) _ _ (rLG0.up s7')
        have S2 : Same HB H2 := by rw [hH2]; exact same_lst S7' O0
        clear hH2
        wp_walk using aO, aSD, aLG
        refine new_tup (ks := [.num t, .num (pickI s sp)]) (rps_2 rfl rfl) (by simp) fun y3 H3 s3 w3 => ?_
        have e3 := s3 _ _ aLG
        wp_walk using e3
        refine ⟨by rw [sizeLine_eq]; omega, ?_⟩
        obtain ⟨H4, hH4⟩ : ∃ H4, H4 = upd H3 LG (.lst (zs ++ [y3])) := ⟨_, rfl⟩
        have t4 : Tub H3 H4 := by rw [hH4]; exact tub_lst e3
        have S4 : Same HB H4 := by rw [hH4]; exact same_lst (S2.trans s3) LG0
        have keep4 : ∀ b o, H2 b = some o → b ≠ LG → H4 b = some o := fun b o e hb => by rw [hH4, upd_ne hb]; exact s3 _ _ e
        have bO := keep4 _ _ aO hs.n1
        have bSD := keep4 _ _ aSD hs.n2.2.1
        have b1 := keep4 _ _ a1 hs.n2.2.2.2.1
        have b3 := keep4 _ _ a3 hs.n2.2.2.2.2.2
        have bLG : LT H4 LG ((s.log ++ [(t, pickI s sp)]).map fun q => eE q.1 q.2) := by
          rw [hH4, List.map_append]
          exact LT.push e3 (Rps.ts (Tub.of s3) _ _ rLG) w3
        rw [← hH4]
        clear hH4
        wp_walk using bO
        obtain ⟨j, hj, ej⟩ := idx_gen (Q := fun z => z = pos (ordI s sp) (pickI s sp)) hpick rfl
        refine ⟨j, hj, ?_⟩
        rw [ej]
        refine new_tup (ks := [.num t, .num (pos (ordI s sp) (pickI s sp))]) (rps_2 rfl rfl) (by simp) fun y5 H5 s5 w5 => ?_
        wp_walk using s5 _ _ bSD
        refine ⟨l1, O, s.c.2, ordI s sp, rfl, s5 _ _ b1, s5 _ _ bO, by have := gd.oc.2; omega, ic, fun p6 H6 s6 e6 => ?_⟩
        wp_walk using u_c
        refine new_tup (ks := [.num s.c.1, eH (s.c.2.map (Option.map (pos (ordI s sp))))]) (rps_2 rfl (rp_eH.mpr ⟨p6, rfl, e6⟩)) (by simp) fun y7 H7 s7 w7 => ?_
        have S47 := (s5.trans s6).trans s7
        refine ⟨m, mapC (pos (ordI s sp)) s.c, t, pos (ordI s sp) (pickI s sp), x, y7, y5, rfl, ok, okCt_map gd.oc, htag, hxB.up (S4.trans S47), w7, w5.up (s6.trans s7), fun y8 H8 s8 w8 => ?_⟩
        obtain ⟨p8, u8, v8, rfl, f8, r8, _⟩ := rp_pair w8
        obtain ⟨pc8, ac8, rfl, g8, g8'⟩ := rp_ct r8
        have S48 := S47.trans s8
        wp_walk using f8, S48 _ _ bSD
        refine ⟨l3, O, s.d.2, ordI s sp, rfl, S48 _ _ b3, S48 _ _ bO, by have := gd.od.2; omega, id, fun p9 H9 s9 e9 => ?_⟩
        wp_walk using u_c
        refine new_tup (ks := [.num s.d.1, eH (s.d.2.map (Option.map (pos (ordI s sp))))]) (rps_2 rfl (rp_eH.mpr ⟨p9, rfl, e9⟩)) (by simp) fun y10 H10 s10 w10 => ?_
        have S810 := s9.trans s10
        have S410 := S48.trans S810
        refine ⟨m, mapC (pos (ordI s sp)) s.d, t, pos (ordI s sp) (pickI s sp), x, y10, y5, rfl, ok, okCt_map gd.od, htag, hxB.up (S4.trans S410), w10, w5.up (((s6.trans s7).trans s8).trans S810), fun y11 H11 s11 w11 => ?_⟩
        obtain ⟨p11, u11, v11, rfl, f11, r11, _⟩ := rp_pair w11
        obtain ⟨pc11, ac11, rfl, g11, g11'⟩ := rp_ct r11
        have S811 := S810.trans s11
        have S411 := S48.trans S811
        have hpc := rd_pos (m := m) (t := t) ic hpick
        have hpd := rd_pos (m := m) (t := t) id hpick
        have okc1 : okCt m (rd m (mapC (pos (ordI s sp)) s.c) t (pos (ordI s sp) (pickI s sp))).1 := rd_ok ok (okCt_map gd.oc) htag
        have okc2 : okCt m (rd m (mapC (pos (ordI s sp)) s.d) t (pos (ordI s sp) (pickI s sp))).1 := rd_ok ok (okCt_map gd.od) htag
        wp_walk using f11, S811 _ _ g8, S811 _ _ g8', g11, g11'
        refine ⟨ac8, O, _, ordI s sp, rfl, S811 _ _ g8', S411 _ _ bO, by have := okc1.2; omega, hpc, fun l1' H12 h12 s12 e12 => ?_⟩
        wp_walk using s12 _ _ f11, (S811.trans s12) _ _ g8, s12 _ _ g11, s12 _ _ g11'
        refine ⟨ac11, O, _, ordI s sp, rfl, s12 _ _ g11', (S411.trans s12) _ _ bO, by have := okc2.2; omega, hpd, fun l3' H13 h13 s13 e13 => ?_⟩
        wp_walk using u_c
        refine new_lst (by simp) fun SD' H14 h14 s14 e14 => ?_
        have S414 := ((S411.trans s12).trans s13).trans s14
        rw [hPv]
        have oLG := bLG.choose_spec.1
        refine ⟨l1', l3', SD', _, _, _, _, _, _, _, _, rfl, S4.trans S414, ⟨?_, ?_, ?_, ?_, ?_, hs.n1, ?_⟩, ?_, ?_⟩
        · rw [run_snoc m _ p i _ hpi, ← hs']
          exact S414 _ _ bO
        · rw [run_snoc m _ p i _ hpi, ← hs']
          exact e14
        · rw [run_snoc m _ p i _ hpi, ← hs']
          exact (s13.trans s14) _ _ e12
        · rw [run_snoc m _ p i _ hpi, ← hs']
          exact s14 _ _ e13
        · rw [run_snoc m _ p i _ hpi, ← hs']
          exact bLG.up S414
        · exact ⟨(ne_lst h14 (((S411.trans s12).trans s13) _ _ bO)).symm, (ne_lst h14 (((S411.trans s12).trans s13) _ _ oLG)).symm, (ne_lst h12 (S411 _ _ bO)).symm, (ne_lst h12 (S411 _ _ oLG)).symm, (ne_lst h13 ((S411.trans s12) _ _ bO)).symm, (ne_lst h13 ((S411.trans s12) _ _ oLG)).symm⟩
        · rw [run_snoc m _ p i _ hpi, ← hs']
          exact stp_good ok gd htag sp0 sp1
        · rw [run_snoc m _ p i _ hpi, ← hs']
          exact hnext
  · intro σ H6 hp
    rw [hPv] at hp
    obtain ⟨l1, l3, SD, z9, z10, z11, z12, z13, z14, z15, z16, rfl, S6, hs, gd, _⟩ := hp
    rw [hpsl, List.take_length] at hs gd
    have hlog : (runS m (st0 c d) p).log = itms m (st0 c d) p := run_log m p (st0 c d)
    have hol := len_run m p (st0 c d)
    have hf0 : Fol m (jts (st0 c d)) p := by
      rw [st0_jts]
      exact hf
    wp_walk using u_c
    refine ⟨O, KN, _, kn (c.2 ++ d.2), rfl, hs.o, S6 _ _ hknB, gd.nd, by omega, fun h => (run_sub m p (st0 c d)).subset (mem_rg.mpr ⟨Int.le_refl 0, by omega⟩), run_nn m p (st0 c d) fun x hx => (mem_rg.mp hx).1, fun DN H7 hDN s7 e7 => ?_⟩
    obtain ⟨zs, g1, g2⟩ := hs.lg
    rw [hlog] at g2
    have hzs := g2.length
    rw [List.length_map, itms_len] at hzs
    have S7' := S6.trans s7
    wp_walk using u_lcL
    refine ⟨⟨_, SqL.of (s7 _ _ g1)⟩, lcL_of (R := Rp) (keep := (itms m (st0 c d) p).map fun q => some (eE q.1 (num (kn (c.2 ++ d.2)) (runS m (st0 c d) p).o q.2))) (s7 _ _ g1) rp_tub (by rw [List.length_map, itms_len, hzs]) (by omega) (fun j xv hxj H' C N hS hC hN => ?_) fun NF acc H8 s8 hNF hacc8 hA8 => ?_⟩
    · obtain ⟨kq, hk1, hk2⟩ := (g2.up (s7.trans hS)).get2 hxj
      rw [List.getElem?_map] at hk1
      obtain ⟨q, hq, rfl⟩ := Option.map_eq_some_iff.mp hk1
      obtain ⟨pq, rfl, hpq⟩ := rp_e hk2
      have hin := itms_in ok p _ (st0_good okc okd) hf0 q (List.mem_of_getElem? hq)
      wp_walk using hpq, u_dget
      refine ⟨DN, .int (num (kn (c.2 ++ d.2)) (runS m (st0 c d) p).o q.2), rfl, dKN_get gd.nd (numL_length _ _ _).symm (hS _ _ e7) hin, ?_⟩
      wp_walk using u_c
      exact new_tup (ks := [.num q.1, .num (num (kn (c.2 ++ d.2)) (runS m (st0 c d) p).o q.2)]) (rps_2 rfl rfl) (by simp) fun y H9 s9 w9 => hC y H9 _ (by rw [List.getElem?_map, hq]; rfl) s9 w9
    · rw [fm_some] at hA8
      wp_walk using hacc8
      refine new_tup1 hA8.rps fun y H9 s9 w9 => ?_
      have SH : Same H H9 := by
        rw [hHB] at S6
        exact (((S4.trans S6).trans s7).trans s8).trans s9
      refine qL ((itms m (st0 c d) p).map fun q => (q.1, num (kn (c.2 ++ d.2)) (runS m (st0 c d) p).o q.2)) y H9 SH hf.parts (fun q hq => ?_) (by rw [List.length_map, itms_len]; omega) (law_log ok okc okd hf fun j hj => ?_) ?_
      · obtain ⟨q', hq', rfl⟩ := List.mem_map.mp hq
        exact itms_tags hf0 q' hq'
      · have := gap j hj
        omega
      · unfold eLog
        rw [List.map_map]
        exact w9

end
/-! ### the law -/
def rNeL : R2 := fun x y H Q => ∃ (a b : Addr) (as bs : List Int), x = .ref a ∧ y = .ref b ∧ H a = some (.lst (as.map V.int)) ∧ H b = some (.lst (bs.map V.int)) ∧ Q (.bl (!decide (as = bs))) H
theorem num_inj {as bs : List Int} (h : as.map NestedKey.num = bs.map NestedKey.num) : as = bs := map_inj (fun a b e => by injection e) h
section
variable {X : Cx}
theorem op_neL (hu : X.A.units + 64 < cLine) : OpR X (compareOp .NotEq) rNeL := by
  intro pins s σ H x y v u Q I rx ry ⟨a, b, as, bs, ex, ey, ha, hb, q⟩
  have nt : ∀ l : List Int, noTs (l.map NestedKey.num) := fun l => noTs_of fun k hk => by
    obtain ⟨i, _, rfl⟩ := List.mem_map.mp hk
    exact trivial
  have dp : ∀ l : List Int, NestedKey.depthAll (l.map NestedKey.num) ≤ 2 := fun l => dep_le fun k hk => by
    obtain ⟨i, _, rfl⟩ := List.mem_map.mp hk
    simp [NestedKey.depth]
  have sh : ∀ l : List Int, SeqAt.shaped (.list (NestedKey.datas (l.map NestedKey.num))) = true := fun l => by
    have h := shaped_data (a := .tup (l.map NestedKey.num)) (nt l) (by simp only [NestedKey.depth]; have := dp l; omega)
    unfold SeqAt.shaped at h ⊢
    simpa [NestedKey.data, PyData.canLay0, PyData.depth] using h
  refine op_neD hu pins s σ H x y v u Q I rx ry ⟨.list (NestedKey.datas (as.map NestedKey.num)), .list (NestedKey.datas (bs.map NestedKey.num)), ?_, ?_, sh as, sh bs, ?_⟩
  · rw [ex]
    exact .lst (SqL.of ha) (Rps.dp _ _ (rps_num.mpr rfl))
  · rw [ey]
    exact .lst (SqL.of hb) (Rps.dp _ _ (rps_num.mpr rfl))
  · have e : PyData.eqv (.list (NestedKey.datas (as.map NestedKey.num))) (.list (NestedKey.datas (bs.map NestedKey.num))) = decide (as = bs) := by
      have h := eqv_dec (.tup (as.map NestedKey.num)) (.tup (bs.map NestedKey.num))
      simp only [NestedKey.data, PyData.eqv] at h ⊢
      rw [h]
      exact decide_eq_decide.mpr ⟨fun e => by injection e with e; exact num_inj e, fun e => by rw [e]⟩
    rw [e]
    exact q
end
def spLaw (K : PySem.W.Frag) : Sp := fun vs H Q _ => ∃ (a : Addr) (ns : List Int), vs = [.ref a] ∧ Scr K H a (ns.map V.int) ∧ ns.length ≤ 63 ∧ ∀ H', Q (.bl true) H'
theorem inV_int (x : Int) (l : List Int) : inV (.int x) (l.map V.int) = decide (x ∈ l) := by
  have h := inV_vO x (l.map some)
  rw [List.map_map, show (vO ∘ some) = V.int from rfl] at h
  rw [h]
  exact decide_eq_decide.mpr ⟨fun h => by obtain ⟨y, h1, h2⟩ := List.mem_map.mp h; cases h2; exact h1, fun h => List.mem_map.mpr ⟨x, h, rfl⟩⟩
theorem flat_int (l : List Int) : (l.map V.int).all flatV = true := by
  rw [List.all_map]
  exact List.all_eq_true.mpr fun _ _ => rfl
def toI (ns : List Nat) : List Int := ns.map fun r : Nat => (r : Int)
theorem mem_toI {ns : List Nat} {r : Nat} : (r : Int) ∈ toI ns ↔ r ∈ ns := by
  unfold toI
  rw [List.mem_map]
  exact ⟨fun ⟨a, h1, h2⟩ => by rw [← show a = r by omega]; exact h1, fun h => ⟨r, h, rfl⟩⟩
/-- the needed ranks are told in order -/
theorem need_list {m : Mc} {k : Ct} {ns : List Nat} (h : NeedL m k ns) : ((rg (many k.2)).map fun r => if decide (r ∈ toI ns) then some r else none).filterMap id = toI ns := by
  have e : ∀ l : List Int, (l.map fun r => if decide (r ∈ toI ns) then some r else none).filterMap id = l.filter fun r => decide (r ∈ toI ns) := fun l => by
    induction l with
    | nil => rfl
    | cons x l ih =>
      rw [List.map_cons, List.filter_cons]
      by_cases q : decide (x ∈ toI ns) = true
      · rw [if_pos q, if_pos q, List.filterMap_cons_some (f := id) (b := x) rfl, ih]
      · rw [if_neg q, if_neg q, List.filterMap_cons_none (f := id) rfl, ih]
  rw [e]
  refine sorted_unique ((rg_sorted _).sublist List.filter_sublist) ?_ fun x => ?_
  · unfold toI
    rw [List.pairwise_map]
    exact h.1.imp fun q => by omega
  · rw [List.mem_filter, decide_eq_true_iff, mem_rg]
    refine ⟨fun q => q.2, fun q => ⟨?_, q⟩⟩
    obtain ⟨r, hr, rfl⟩ := List.mem_map.mp q
    have := ((h.2 r).mp hr).1
    omega
theorem need_iff {m : Mc} (ok : okM m) {k : Ct} (ht : okT m k) {r : Nat} (hr : r < many k.2) {dl : Int} (hdl : dl = 2 * QQ ∨ dl = -QQ) :
    Parts m (jt (withV k (lvN (many k.2))) (withV k (lsN (many k.2) r dl))) ↔ Need m k r := by
  have hk : ∀ r, some r ∈ k.2 → 0 ≤ r ∧ r.toNat < many k.2 := fun r h => okT_lt ht h
  unfold Need
  rcases hdl with rfl | rfl
  · rw [jt_up hk hr]
  · rw [jt_down hk hr]
    exact parts_swap ok (okCt_with ht) (okCt_with ht)
theorem wide_eq : (4 : Int) * 10 ^ (60 : Int).toNat = 4 * QQ := by
  unfold QQ
  rfl
theorem fdiv_up : (4 * QQ).fdiv 2 = 2 * QQ := by
  unfold QQ
  rfl
theorem fdiv_down : (4 * QQ).fdiv (-4) = -QQ := by
  unfold QQ
  rfl
theorem law_gapOk {k : Ct} {n r : Nat} (hk : ∀ r, some r ∈ k.2 → 0 ≤ r ∧ r.toNat < n) {dl : Int} (hdl : dl = 2 * QQ ∨ dl = -QQ) : gapOk (withV k (lvN n)) (withV k (lsN n r dl)) := fun _ hj => law_gap hk hdl hj
theorem lv_len (n : Nat) : (lvN n).length = n := by
  unfold lvN
  rw [List.length_map, List.length_range]
theorem ls_len (n r : Nat) (dl : Int) : (lsN n r dl).length = n := by
  unfold lsN
  rw [List.length_set, lv_len]
theorem noTs_ans (l : List An) : noT (.tup (l.map eA)) := noTs_of fun k hk => by
  obtain ⟨a, _, rfl⟩ := List.mem_map.mp hk
  exact noT_eA a
theorem dep_ans (l : List An) : (NestedKey.tup (l.map eA)).depth ≤ 60 := by
  have h : NestedKey.depthAll (l.map eA) ≤ 8 := dep_le fun k hk => by
    obtain ⟨a, _, rfl⟩ := List.mem_map.mp hk
    exact dep_eA a
  simp only [NestedKey.depth]
  omega
theorem dec_ans (a b : List An) : decide (NestedKey.tup (a.map eA) = .tup (b.map eA)) = decide (a = b) := decide_eq_decide.mpr ⟨fun e => by injection e with e; exact map_inj (fun _ _ => eA_inj) e, fun e => by rw [e]⟩
def Dl (K : PySem.W.Frag) (x : PySem.Str) (st : Stmt) (f : Addr) (fd : FuncData) : Prop := FunD K x x (defArgs st) (defBody st) (defScope st) [] [] f fd
theorem Dl.cal {P : Program} {w : World} {K : PySem.W.Frag} {mg : PySem.Str → Option Value} {base : Heap} {x : PySem.Str} {st : Stmt} {N ps : List PySem.Str} {k : Nat} {sp : Sp} {f0 : Addr} {fd0 : FuncData} (F : Dl K x st f0 fd0) (S : FnScope N ps (defScope st)) (len : ∀ vs H Q E, sp vs H Q E → vs.length = ps.length)
    (bnd : ∀ (kV doc pm : Value) (an : Option Addr) (cdv ct : Value) (us : List Value), us.length = ps.length → bindArgs (PySem.W.fnOf x x (defArgs st) (defBody st) (defScope st) .none kV doc pm an cdv ct) ⟨us, []⟩ = pure (ps.zip us))
    (hbody : ∀ (f : Addr) (cdv : Value) (A : Around) (outer : List Env) (s : Shared) (H : Hp) (vs : List V) (Q : VK) (E : XK), Room k (A.deeper (envOfC x (defScope st) s.heap.objs.size f cdv)) → sp vs H Q E →
      ∃ t, PSs (cxOf CX0 P w K mg base N x (defScope st) f cdv A outer s H E).nox (defBody st) t ∧ t { nx := fun _ H' => Q .non H', rt := Q } (start N vs) H) : FnOk P w K mg base CX0 (k + 1) f0 fd0 ps sp := by
  refine FunD.ok F S len fun cdv A outer s H vs Q E hr h => ?_
  obtain ⟨t, h1, h2⟩ := hbody f0 cdv A outer s H vs Q E hr h
  exact ⟨t, h1.nox, h2⟩
section
variable {P : Program} {w : World} {K : PySem.W.Frag} {mg : PySem.Str → Option Value} {base : Heap} {C : Addr}

abbrev N_law : List PySem.Str := ["_law_script", "_law_draws_here", "_law_machine_here", "_law_wide", "_law_k", "_law_kind", "_law_needs", "_law_many_here", "_law_rank", "_law_values", "_law_content", "_law_other", "_law_log_here", "_law_number"]
theorem sc_law : FnScope N_law ["_law_script"] (defScope s_law) := ⟨rfl, rfl, rfl, by decide +kernel, rfl, by decide +kernel, by decide +kernel⟩
theorem c_law {f0 : Addr} {fd0 : FuncData} (D : Dl K "law" s_law f0 fd0) (T : Tx K mg) (C_l_draws : Cal P w K mg base "_law_draws" 1 ["_law_script", "_law_many_here"] (spDraws K)) (C_l_machine : Cal P w K mg base "_law_machine" 6 ["_law_draws_here"] spMach) (C_l_take : Cal P w K mg base "_law_take" 1 ["_law_draws_here", "_law_many_here"] spTake) (C_l_any_type : Cal P w K mg base "_law_any_type" 2 ["_law_draws_here", "_law_machine_here"] spType) (C_needed : Cal P w K mg base "needed" 10 ["machine", "kind"] spNeeded) (C_l_many : Cal P w K mg base "_law_many" 1 ["_law_ranks_here"] spMany) (C_l_spaced : Cal P w K mg base "_law_spaced" 1 ["_law_kind", "_law_values"] spWith) (C_l_parting : Cal P w K mg base "_law_parting" 8 ["_law_one", "_law_content", "_law_other", "_law_another"] spParting) (C_l_log : Cal P w K mg base "_law_log" 3 ["_law_script", "_law_draws_here", "_law_tags", "_law_most"] (spLog K)) (C_answers_from : Cal P w K mg base "answers_from" 7 ["machine", "content", "log"] spAns) : FnOk P w K mg base CX0 11 f0 fd0 ["_law_script"] (spLaw K) := by
  refine D.cal sc_law (by rintro vs H Q E ⟨_, _, rfl, _⟩; rfl) (fun _ _ _ _ _ _ us hl => match us, hl with | [_], _ => rfl) fun f cdv A outer s H vs Q E hr h => ?_
  have hu : (A.deeper (envOfC "law" (defScope s_law) s.heap.objs.size f cdv)).units + 64 < cLine := hr.units
  obtain ⟨a, ns, rfl, hs, hns, q⟩ := h
  refine ⟨_, (pss_cons (ps_set (i := 1) sc_law.nd rfl (Or.inl rfl) (pe_cal C_l_draws hr (pa_cons (pv 0) (pa_cons pe_int pa_nil))))
    (pss_cons (ps_set (i := 2) sc_law.nd rfl (Or.inl rfl) (pe_cal C_l_machine hr (pa_cons (pv 1) pa_nil)))
    (pss_cons (ps_set (i := 3) sc_law.nd rfl (Or.inr rfl) (pe_op op_mul pe_int (pe_op op_pow pe_int pe_int)))
    (pss_cons (ps_for PassesOwn.never rfl (pi_range1 (by rfl) T.nrange (pa_cons (pe_op op_add pe_int (pe_cal C_l_take hr (pa_cons (pv 1) (pa_cons pe_int pa_nil)))) pa_nil)) (pg_name (i := 4) sc_law.nd rfl (Or.inl rfl)) (pss_cons (ps_set (i := 5) sc_law.nd rfl (Or.inl rfl) (pe_cal C_l_any_type hr (pa_cons (pv 1) (pa_cons (pv 2) pa_nil))))
    (pss_cons (ps_set (i := 6) sc_law.nd rfl (Or.inr rfl) (pe_cal C_needed hr (pa_cons (pv 2) (pa_cons (pv 5) pa_nil))))
    (pss_cons (ps_set (i := 7) sc_law.nd rfl (Or.inl rfl) (pe_cal C_l_many hr (pa_cons (pe_ix ixT (pv 5) pe_int (fun _ _ => rfl)) pa_nil)))
    (pss_cons (ps_if (pt_cmpR (op_neL hu) (pe_callTy cr_lstT (by rfl) T.nlist (by decide +kernel) (pa_cons (pv 6) pa_nil)) (pe_lc (own := [("_law_rank", 8)]) rfl sc_law.nd (pi_range1 (by rfl) T.nrange (pa_cons (pv 7) pa_nil)) (blkOk_by (own := [("_law_rank", 8)]) (N := N_law) (sc := defScope s_law) (by decide +kernel)) (fun _ _ _ _ _ => (pg_name (i := 8) sc_law.nd rfl (Or.inl rfl))) (fun _ _ _ _ _ => (pts_one (pt_cmpR op_inT (pv 8) (pv 6) rfl))) (fun _ _ _ _ _ => (pv 8))) (nomark _)) (pss_one (ps_ret pe_bl)) pss_nil)
    (pss_one (ps_for PassesOwn.never rfl (pi_range1 (by rfl) T.nrange (pa_cons (pv 7) pa_nil)) (pg_name (i := 8) sc_law.nd rfl (Or.inl rfl)) (pss_cons (ps_setLc (i := 9) (own := [("_law_number", 13)]) rfl sc_law.nd rfl rfl (sw_true rfl rfl rfl (by decide +kernel)) (pi_range1 (by rfl) T.nrange (pa_cons (pv 7) pa_nil)) (blkOk_by (own := [("_law_number", 13)]) (N := N_law) (sc := defScope s_law) (by decide +kernel)) (fun _ _ _ _ _ => (pg_name (i := 13) sc_law.nd rfl (Or.inl rfl))) (fun _ _ _ _ _ => pts_nil) (fun _ _ _ _ _ => (pe_op op_mul (pv 13) (pv 3))))
    (pss_cons (ps_set (i := 10) sc_law.nd rfl (Or.inl rfl) (pe_cal C_l_spaced hr (pa_cons (pv 5) (pa_cons (pv 9) pa_nil))))
    (pss_cons (ps_asg (pe_op op_add (pe_ix ixL (pv 9) (pv 8) (fun _ _ => rfl)) (pe_op op_fdivN (pv 3) (pe_ix ixL (pe_lst (pa_cons pe_int (pa_cons (pe_un un_neg pe_int) pa_nil))) (pe_cal C_l_take hr (pa_cons (pv 1) (pa_cons pe_int pa_nil))) (fun _ _ => rfl)))) (pg_sub (pv 9) (pv 8) set_list))
    (pss_cons (ps_set (i := 11) sc_law.nd rfl (Or.inl rfl) (pe_cal C_l_spaced hr (pa_cons (pv 5) (pa_cons (pv 9) pa_nil))))
    (pss_cons (ps_set (i := 12) sc_law.nd rfl (Or.inl rfl) (pe_cal C_l_parting hr (pa_cons (pv 2) (pa_cons (pv 10) (pa_cons (pv 2) (pa_cons (pv 11) pa_nil))))))
    (pss_cons (ps_if (pt_cmpR op_ne (pe_cmp (pc_notN (pv 12)) rfl) (pe_cmpR op_inT (pv 8) (pv 6) rfl) (nomark _)) (pss_one (ps_ret pe_bl)) pss_nil)
    (pss_one (ps_if (pt_cmp (pc_isN (pv 12)) rfl) (pss_cons (ps_set (i := 12) sc_law.nd rfl (Or.inl rfl) (pe_cal C_l_log hr (pa_cons (pv 0) (pa_cons (pv 1) (pa_cons (pe_ix ixT (pv 2) pe_int (fun _ _ => rfl)) (pa_cons pe_int pa_nil))))))
    (pss_one (ps_if (pt_cmpR (op_neR hu) (pe_cal C_answers_from hr (pa_cons (pv 2) (pa_cons (pv 10) (pa_cons (pv 12) pa_nil)))) (pe_cal C_answers_from hr (pa_cons (pv 2) (pa_cons (pv 11) (pa_cons (pv 12) pa_nil)))) (nomark _)) (pss_one (ps_ret pe_bl)) pss_nil))) (pss_one (ps_if (pt_cmpR (op_eqR hu) (pe_cal C_answers_from hr (pa_cons (pv 2) (pa_cons (pv 10) (pa_cons (pv 12) pa_nil)))) (pe_cal C_answers_from hr (pa_cons (pv 2) (pa_cons (pv 11) (pa_cons (pv 12) pa_nil)))) (nomark _)) (pss_one (ps_ret pe_bl)) pss_nil)))))))))))))))))
    (pss_one (ps_ret pe_bl)))))), ?_⟩
  wp_walk using u_c
  refine ⟨a, ns, rfl, hs, hns, fun d H1 hd0 s1 hd => ?_⟩
  wp_walk using u_c
  refine ⟨d, rfl, hd, fun m x HB ok fB hx => ?_⟩
  have hsB : Scr K HB a (ns.map V.int) := (hs.up s1).fr fB
  have hdB := fB.d1
  obtain ⟨pm, am, rows, rfl, m1, m2, m3⟩ := rp_m hx
  wp_walk using u_forR
  refine ⟨⟨by decide, by decide, by decide⟩, .inl ⟨by decide, by decide⟩, ?_⟩
  rw [wide_eq]
  refine take_of hdB (by decide) fun n H2 n0 n2 f2 => ?_
  obtain ⟨n, rfl⟩ : ∃ k : Nat, n = k := ⟨n.toNat, by omega⟩
  wp_walk using u_forR
  refine ⟨⟨by omega, by omega⟩, ?_⟩
  rw [show (1 + (n : Int)).toNat = n + 1 by omega]
  have h2 := ok.r2
  obtain ⟨Pv, hPv⟩ : ∃ Pv : Nat → L2.St → Hp → Prop, Pv = fun _ σ H' => ∃ (z4 z5 z6 z7 z8 z9 z10 z11 z12 : Option V), σ = [some (.ref a), some (.ref d), some (.ref pm), some (.int (4 * QQ)), z4, z5, z6, z7, z8, z9, z10, z11, z12, none] ∧ Fr d HB H' := ⟨_, rfl⟩
  refine forR_of Pv ?_ ?_ ?_
  · rw [hPv]
    exact ⟨_, _, _, _, _, _, _, _, _, rfl, f2⟩
  · intro i σ H3 hi hp
    rw [hPv] at hp
    obtain ⟨z4, z5, z6, z7, z8, z9, z10, z11, z12, rfl, F3⟩ := hp
    wp_walk using u_c
    refine ⟨d, m, _, rfl, ok, F3.rp hx, F3.d1, fun k xk H4 okt f4 wk => ?_⟩
    have F4 := F3.trans f4
    have hk : ∀ r, some r ∈ k.2 → 0 ≤ r ∧ r.toNat < many k.2 := fun r h => okT_lt okt h
    have hm2 := okT_many okt ok
    have hkl := okt.1.2
    wp_walk using u_c
    refine ⟨m, k, _, xk, rfl, ok, okt, F4.rp hx, wk, fun pn nd H5 hnd s5 e5 => ?_⟩
    have F5 := F4.same s5
    have e5' : H5 pn = some (.tup ((toI nd).map V.int)) := by
      rw [e5]
      unfold toI
      rw [List.map_map]
      rfl
    have wk5 := wk.up s5
    obtain ⟨pk, ak, rfl, k1, k2⟩ := rp_ct wk5
    wp_walk using k1
    refine ⟨k.2, ak, rfl, k2, by omega, fun H6 s6 => ?_⟩
    have F6 := F5.same s6
    obtain ⟨M, hM⟩ : ∃ M, M = many k.2 := ⟨_, rfl⟩
    rw [← hM]
    have hMk : ∀ r, some r ∈ k.2 → 0 ≤ r ∧ r.toNat < M := by rw [hM]; exact hk
    have hM2 : M ≤ 2 := by rw [hM]; exact hm2
    wp_walk using s6 _ _ e5', u_lcR
    refine new_lst1 fun l7 H7 h7 s7 e7 => ?_
    wp_walk using u_lcR
    refine ⟨⟨by omega, by omega⟩, ?_⟩
    rw [Int.toNat_natCast]
    have e57 := (s6.trans s7) _ _ e5'
    refine lcR_of (R := FlatR V.int) (keep := (rg M).map fun r => if decide (r ∈ toI nd) then some r else none) flat_tub (by rw [List.length_map, rg_length]) (by omega) (fun j hj H' C N hS hC hN => ?_) fun l8 acc H8 s8 h8 hacc hA => ?_
    · have hg : ((rg M).map fun r => if decide (r ∈ toI nd) then some r else none)[j]? = some (if decide ((j : Int) ∈ toI nd) then some (j : Int) else none) := by
        rw [List.getElem?_map, List.getElem?_eq_getElem (by rw [rg_length]; exact hj), rg_get hj]
        rfl
      wp_walk using hS _ _ e57, inV_int, flat_int, flatV
      by_cases h : (j : Int) ∈ toI nd
      · wp_walk using h, if_true
        exact hC _ _ (j : Int) (by rw [hg, if_pos (decide_eq_true h)]) (Same.refl _) rfl
      · wp_walk using h, if_false
        exact hN _ (by rw [hg, if_neg (by simpa using h)]) (Same.refl _)
    have ea := hA.flat
    rw [hM, need_list hnd] at ea
    subst ea
    refine ⟨l7, l8, toI nd, toI nd, rfl, rfl, s8 _ _ e7, hacc, ?_⟩
    have S68 := s7.trans s8
    have F8 := F6.same S68
    wp_walk using u_forR
    refine ⟨⟨by omega, by omega⟩, ?_⟩
    rw [Int.toNat_natCast]
    have n8 : H8 pn = some (.tup ((toI nd).map V.int)) := s8 _ _ e57
    have wk8 : Rp H8 (eCt k) (.ref pk) := wk5.up (s6.trans S68)
    obtain ⟨Pr, hPr⟩ : ∃ Pv : Nat → L2.St → Hp → Prop, Pv = fun _ σ H' => ∃ (z8 z9 z10 z11 z12 : Option V), σ = [some (.ref a), some (.ref d), some (.ref pm), some (.int (4 * QQ)), some (.int i), some (.ref pk), some (.ref pn), some (.int M), z8, z9, z10, z11, z12, none] ∧ Fr d H8 H' := ⟨_, rfl⟩
    refine forR_of Pr ?_ ?_ ?_
    · rw [hPr]
      exact ⟨_, _, _, _, _, rfl, Fr.refl F8.d1⟩
    · intro r σ H9 hr hp
      rw [hPr] at hp
      obtain ⟨z8, z9, z10, z11, z12, rfl, G9⟩ := hp
      wp_walk using u_lcR
      refine ⟨⟨by omega, by omega⟩, ?_⟩
      rw [Int.toNat_natCast]
      refine lcR_of (R := FlatR V.int) (keep := (lvN M).map some) flat_tub (by rw [List.length_map, lv_len]) (by omega) (fun j hj H' C N hS hC hN => ?_) fun lv acc H10 s10 h10 hacc10 hA10 => ?_
      · wp_walk using u_c
        refine ⟨.inl ⟨by omega, by omega⟩, ?_⟩
        refine hC _ _ ((j : Int) * (4 * QQ)) ?_ (Same.refl _) rfl
        unfold lvN
        rw [List.getElem?_map, List.getElem?_map, List.getElem?_range hj]
        rfl
      have ea := hA10.flat
      rw [show ((lvN M).map some).filterMap id = lvN M by rw [List.filterMap_map]; exact List.filterMap_some] at ea
      subst ea
      have G10 := G9.same s10
      have nlv : lv ≠ d := G9.d1.fresh h10
      wp_walk using u_c
      refine ⟨k, lvN M, _, lv, rfl, G10.rp wk8, hacc10, by omega, fun r hr => by rw [lv_len]; exact hMk r hr, fun yc H11 s11 wc => ?_⟩
      have G11 := G10.same s11
      have elv := s11 _ _ hacc10
      wp_walk using elv
      refine ⟨_, itm_val (o := lvN M) (r := (r : Int)) (by omega) (by rw [lv_len]; omega), ?_⟩
      wp_walk using elv
      refine new_lst (by simp) fun lq H12 h12 s12 e12 => ?_
      have G12 := G11.same s12
      have nlq : lq ≠ d := G11.d1.fresh h12
      wp_walk using u_c
      refine take_of G12.d1 (by decide) fun b H13 b0 b2 f13 => ?_
      have G13 := G12.trans f13
      wp_walk using f13.sb _ _ e12 nlq
      have pick : ∃ v, atI [V.int 2, V.int (-4)] b = some v ∧ ∃ (j dl : Int), v = .int j ∧ CDivN (4 * QQ) j ∧ (4 * QQ).fdiv j = dl ∧ (dl = 2 * QQ ∨ dl = -QQ) := by
        refine any_at (H := H13) b0 (by simpa using b2) fun v hv => ?_
        simp only [List.mem_cons, List.not_mem_nil, or_false] at hv
        rcases hv with rfl | rfl
        · exact ⟨2, _, rfl, ⟨by decide, by decide⟩, fdiv_up, .inl rfl⟩
        · exact ⟨-4, _, rfl, ⟨by decide, by decide⟩, fdiv_down, .inr rfl⟩
      obtain ⟨_, hb, j, dl, rfl, hcd, hfd, hdl⟩ := pick
      refine ⟨_, hb, ?_⟩
      wp_walk using u_gsub
      refine ⟨hcd, lv, _, (r : Int), r, rfl, rfl, f13.sb _ _ (s12 _ _ elv) nlv, ixN_z (by rw [List.length_map, lv_len]; omega), ?_⟩
      have ev : itm (lvN M) (r : Int) = (r : Int) * (4 * QQ) := by
        unfold itm
        rw [Int.toNat_natCast, lv_get hr]
      have els : ((lvN M).map V.int).set r (.int (itm (lvN M) (r : Int) + (4 * QQ).fdiv j)) = (lsN M r dl).map V.int := by
        rw [ev, hfd]
        unfold lsN
        rw [List.map_set]
      rw [els]
      obtain ⟨H14, hH14⟩ : ∃ H14, H14 = upd H13 lv (.lst ((lsN M r dl).map V.int)) := ⟨_, rfl⟩
      rw [← hH14]
      have t14 : Tub H13 H14 := by rw [hH14]; exact tub_lst (f13.sb _ _ (s12 _ _ elv) nlv)
      have G14 : Fr d H8 H14 := by rw [hH14]; exact G13.new (G9.back h10)
      have e14 : H14 lv = some (.lst ((lsN M r dl).map V.int)) := by rw [hH14, upd_same]
      have wc14 : Rp H14 (eCt (withV k (lvN M))) yc := Rp.ts t14 _ _ (f13.rp (wc.up s12))
      have F14 := F8.trans G14
      refine ⟨k, lsN M r dl, _, lv, rfl, G14.rp wk8, e14, by omega, fun r hr => by rw [ls_len]; exact hMk r hr, fun yd H15 s15 wd => ?_⟩
      have F15 := F14.same s15
      have G15 := G14.same s15
      have okc' : okCt m (withV k (lvN M)) := okCt_with okt
      have okd' : okCt m (withV k (lsN M r dl)) := okCt_with okt
      have hiff : Parts m (jt (withV k (lvN M)) (withV k (lsN M r dl))) ↔ (r : Int) ∈ toI nd := by
        rw [mem_toI, hnd.2 r, ← need_iff ok okt (r := r) (by omega) hdl, ← hM]
        exact ⟨fun h => ⟨hr, h⟩, fun h => h.2⟩
      refine ⟨m, withV k (lvN M), withV k (lsN M r dl), _, yc, yd, rfl, ok, okc', okd', F15.rp hx, wc14.up s15, wd, law_gapOk hMk hdl, fun H16 s16 hnp => ?_, fun lg y H16 s16 hp htags hlen hne w16 => ?_⟩
      · have hnot : ¬ (r : Int) ∈ toI nd := fun h => hnp (hiff.mpr h)
        have F16 := F15.same s16
        have G16 := G15.same s16
        wp_walk using G16.tub _ _ n8, inV_int, flat_int, flatV, hnot, not_true, if_false, if_true, F16.tub _ _ m1
        refine ⟨a, d, ns, m.tags, rfl, hsB.fr F16, hns, ok.t1, F16.d1, fun lg yl H17 htags hlen f17 wl => ?_⟩
        have F17 := F16.trans f17
        have wc17 := f17.rp ((wc14.up s15).up s16)
        have wd17 := f17.rp (wd.up s16)
        refine ⟨m, _, lg, _, yc, yl, rfl, ok, okc', htags, by omega, F17.rp hx, wc17, wl, fun y18 H18 s18 w18 => ?_⟩
        refine ⟨m, _, lg, _, yd, yl, rfl, ok, okd', htags, by omega, (F17.same s18).rp hx, wd17.up s18, wl.up s18, fun y19 H19 s19 w19 => ?_⟩
        have alike := alike_of ok lg _ _ okc' okd' htags hnp
        refine ⟨_, _, w18.up s19, w19, noTs_ans _, noTs_ans _, dep_ans _, dep_ans _, ?_⟩
        rw [alike]
        wp_walk using if_true, if_false
        rw [hPr]
        exact ⟨_, _, _, _, _, rfl, ((G16.trans f17).same s18).same s19⟩
      · have hin : (r : Int) ∈ toI nd := hiff.mp hp
        have F16 := F15.same s16
        have G16 := G15.same s16
        obtain ⟨pl, ls, rfl, _, _⟩ := rp_tup w16
        wp_walk using G16.tub _ _ n8, inV_int, flat_int, flatV, hin, not_true, if_false, if_true
        refine ⟨m, _, lg, _, yc, _, rfl, ok, okc', htags, hlen, F16.rp hx, (wc14.up s15).up s16, w16, fun y18 H18 s18 w18 => ?_⟩
        refine ⟨m, _, lg, _, yd, _, rfl, ok, okd', htags, hlen, (F16.same s18).rp hx, (wd.up s16).up s18, w16.up s18, fun y19 H19 s19 w19 => ?_⟩
        refine ⟨_, _, w18.up s19, w19, noTs_ans _, noTs_ans _, dep_ans _, dep_ans _, ?_⟩
        rw [dec_ans, decide_eq_false hne]
        wp_walk using if_true, if_false
        rw [hPr]
        exact ⟨_, _, _, _, _, rfl, (G16.same s18).same s19⟩
    · intro σ H9 hp
      rw [hPr] at hp
      obtain ⟨z8, z9, z10, z11, z12, rfl, G9⟩ := hp
      rw [hPv]
      exact ⟨_, _, _, _, _, _, _, _, _, rfl, F8.trans G9⟩
  · intro σ H3 hp
    rw [hPv] at hp
    obtain ⟨z4, z5, z6, z7, z8, z9, z10, z11, z12, rfl, F3⟩ := hp
    wp_walk using u_c
    exact q H3

end
/-! the head: facts by names -/
def fn0 : List He.DefD := [
  ⟨("value_at", none), "value_at", "value_at", defArgs s_value_at, defBody s_value_at, defScope s_value_at, [], []⟩,
  ⟨("holds", none), "holds", "holds", defArgs s_holds, defBody s_holds, defScope s_holds, [], []⟩,
  ⟨("case_for", none), "case_for", "case_for", defArgs s_case_for, defBody s_case_for, defScope s_case_for, [], []⟩,
  ⟨("read", none), "read", "read", defArgs s_read, defBody s_read, defScope s_read, [], []⟩,
  ⟨("answers_from", none), "answers_from", "answers_from", defArgs s_answers_from, defBody s_answers_from, defScope s_answers_from, [], []⟩,
  ⟨("ranks_of", none), "ranks_of", "ranks_of", defArgs s_ranks_of, defBody s_ranks_of, defScope s_ranks_of, [], []⟩,
  ⟨("spots_of", none), "spots_of", "spots_of", defArgs s_spots_of, defBody s_spots_of, defScope s_spots_of, [], []⟩,
  ⟨("with_values", none), "with_values", "with_values", defArgs s_with_values, defBody s_with_values, defScope s_with_values, [], []⟩,
  ⟨("needed_by", none), "needed_by", "needed_by", defArgs s_needed_by, defBody s_needed_by, defScope s_needed_by, [], []⟩,
  ⟨("needed", none), "needed", "needed", defArgs s_needed, defBody s_needed, defScope s_needed, [], []⟩]
def fn1 : List He.DefD := [
  ⟨("_law_draws", none), "_law_draws", "_law_draws", defArgs s_l_draws, defBody s_l_draws, defScope s_l_draws, [], []⟩,
  ⟨("_law_take", none), "_law_take", "_law_take", defArgs s_l_take, defBody s_l_take, defScope s_l_take, [], []⟩,
  ⟨("_law_cell", none), "_law_cell", "_law_cell", defArgs s_l_cell, defBody s_l_cell, defScope s_l_cell, [], []⟩,
  ⟨("_law_condition", none), "_law_condition", "_law_condition", defArgs s_l_condition, defBody s_l_condition, defScope s_l_condition, [], []⟩,
  ⟨("_law_drawn_case", none), "_law_drawn_case", "_law_drawn_case", defArgs s_l_drawn_case, defBody s_l_drawn_case, defScope s_l_drawn_case, [], []⟩,
  ⟨("_law_drawn_machine", none), "_law_drawn_machine", "_law_drawn_machine", defArgs s_l_drawn_machine, defBody s_l_drawn_machine, defScope s_l_drawn_machine, [], []⟩,
  ⟨("_law_shaped_machine", none), "_law_shaped_machine", "_law_shaped_machine", defArgs s_l_shaped_machine, defBody s_l_shaped_machine, defScope s_l_shaped_machine, [], []⟩,
  ⟨("_law_with_case", none), "_law_with_case", "_law_with_case", defArgs s_l_with_case, defBody s_l_with_case, defScope s_l_with_case, [], []⟩,
  ⟨("_law_changed", none), "_law_changed", "_law_changed", defArgs s_l_changed, defBody s_l_changed, defScope s_l_changed, [], []⟩,
  ⟨("_law_machine", none), "_law_machine", "_law_machine", defArgs s_l_machine, defBody s_l_machine, defScope s_l_machine, [], []⟩]
def fn2 : List He.DefD := [
  ⟨("_law_with_tag", none), "_law_with_tag", "_law_with_tag", defArgs s_l_with_tag, defBody s_l_with_tag, defScope s_l_with_tag, [], []⟩,
  ⟨("_law_at", none), "_law_at", "_law_at", defArgs s_l_at, defBody s_l_at, defScope s_l_at, [], []⟩,
  ⟨("_law_holds", none), "_law_holds", "_law_holds", defArgs s_l_holds, defBody s_l_holds, defScope s_l_holds, [], []⟩,
  ⟨("_law_case", none), "_law_case", "_law_case", defArgs s_l_case, defBody s_l_case, defScope s_l_case, [], []⟩,
  ⟨("_law_read", none), "_law_read", "_law_read", defArgs s_l_read, defBody s_l_read, defScope s_l_read, [], []⟩,
  ⟨("_law_ranks", none), "_law_ranks", "_law_ranks", defArgs s_l_ranks, defBody s_l_ranks, defScope s_l_ranks, [], []⟩,
  ⟨("_law_many", none), "_law_many", "_law_many", defArgs s_l_many, defBody s_l_many, defScope s_l_many, [], []⟩,
  ⟨("_law_log", none), "_law_log", "_law_log", defArgs s_l_log, defBody s_l_log, defScope s_l_log, [], []⟩,
  ⟨("_law_shown", none), "_law_shown", "_law_shown", defArgs s_l_shown, defBody s_l_shown, defScope s_l_shown, [], []⟩,
  ⟨("_law_path", none), "_law_path", "_law_path", defArgs s_l_path, defBody s_l_path, defScope s_l_path, [], []⟩]
def fn3 : List He.DefD := [
  ⟨("_law_placed_in", none), "_law_placed_in", "_law_placed_in", defArgs s_l_placed_in, defBody s_l_placed_in, defScope s_l_placed_in, [], []⟩,
  ⟨("_law_items", none), "_law_items", "_law_items", defArgs s_l_items, defBody s_l_items, defScope s_l_items, [], []⟩,
  ⟨("_law_numbers", none), "_law_numbers", "_law_numbers", defArgs s_l_numbers, defBody s_l_numbers, defScope s_l_numbers, [], []⟩,
  ⟨("_law_parting", none), "_law_parting", "_law_parting", defArgs s_l_parting, defBody s_l_parting, defScope s_l_parting, [], []⟩,
  ⟨("_law_spaced", none), "_law_spaced", "_law_spaced", defArgs s_l_spaced, defBody s_l_spaced, defScope s_l_spaced, [], []⟩,
  ⟨("_law_any_type", none), "_law_any_type", "_law_any_type", defArgs s_l_any_type, defBody s_l_any_type, defScope s_l_any_type, [], []⟩,
  ⟨("law", none), "law", "law", defArgs s_law, defBody s_law, defScope s_law, [], []⟩,
  ⟨("Pair", some "__init__"), "__init__", "Pair.__init__", defArgs s_Pair_init, defBody s_Pair_init, defScope s_Pair_init, [], []⟩,
  ⟨("Pair", some "joint_type"), "joint_type", "Pair.joint_type", defArgs s_Pair_joint_type, defBody s_Pair_joint_type, defScope s_Pair_joint_type, [], []⟩,
  ⟨("Pair", some "contents"), "contents", "Pair.contents", defArgs s_Pair_contents, defBody s_Pair_contents, defScope s_Pair_contents, [], []⟩]
def fn4 : List He.DefD := [
  ⟨("Pair", some "after"), "after", "Pair.after", defArgs s_Pair_after, defBody s_Pair_after, defScope s_Pair_after, [], []⟩,
  ⟨("Pair", some "is_parted"), "is_parted", "Pair.is_parted", defArgs s_Pair_is_parted, defBody s_Pair_is_parted, defScope s_Pair_is_parted, [], []⟩]
def fn : List He.DefD := fn0 ++ fn1 ++ fn2 ++ fn3 ++ fn4
def fa0 : List He.Fa := [.glo "value_at", .glo "holds", .glo "case_for", .glo "read", .glo "answers_from", .glo "ranks_of", .glo "spots_of", .glo "with_values", .glo "needed_by", .glo "needed", .glo "_law_draws", .glo "_law_take", .glo "_law_cell", .glo "_law_condition", .glo "_law_drawn_case", .glo "_law_drawn_machine", .glo "_law_shaped_machine", .glo "_law_with_case", .glo "_law_changed", .glo "_law_machine"]
def fa1 : List He.Fa := [.glo "_law_with_tag", .glo "_law_at", .glo "_law_holds", .glo "_law_case", .glo "_law_read", .glo "_law_ranks", .glo "_law_many", .glo "_law_log", .glo "_law_shown", .glo "_law_path", .glo "_law_placed_in", .glo "_law_items", .glo "_law_numbers", .glo "_law_parting", .glo "_law_spaced", .glo "_law_any_type", .glo "law", .glo "Pair", .free "all", .free "any"]
def fa2 : List He.Fa := [.free "enumerate", .free "tuple", .free "sorted", .free "set", .free "len", .free "range", .free "list", .free "int", .int "READ" (-1), .int "NOTHING" (-2), .cls "Pair", .mkr "Pair", .noat "Pair" "one", .noat "Pair" "other", .noat "Pair" "closed", .meth "Pair" "joint_type", .meth "Pair" "contents", .meth "Pair" "after", .meth "Pair" "is_parted"]
def fa : List He.Fa := fa0 ++ fa1 ++ fa2
def loose0 : List PySem.Str := ["value_at", "holds", "case_for", "read", "answers_from", "ranks_of", "spots_of", "with_values", "needed_by", "needed", "_law_draws", "_law_take", "_law_cell", "_law_condition", "_law_drawn_case", "_law_drawn_machine", "_law_shaped_machine", "_law_with_case", "_law_changed", "_law_machine"]
def loose1 : List PySem.Str := ["_law_with_tag", "_law_at", "_law_holds", "_law_case", "_law_read", "_law_ranks", "_law_many", "_law_log", "_law_shown", "_law_path", "_law_placed_in", "_law_items", "_law_numbers", "_law_parting", "_law_spaced", "_law_any_type", "Pair", "READ", "NOTHING"]
def loose : List PySem.Str := loose0 ++ loose1
abbrev R : PySem.W.OpenRow := PySem.W.OpenLaw.row PySem.Challenge.rw_anyvalues_k59_whole_needed_values_are_to
abbrev hk : PySem.W.Hook := He.hookD 4 fa fn
def ob (s : PySem.W.SharedT) : He.AlD := He.obsDG 4 fa fn (HandSHeadRun.getT s)
theorem ob_eq (s : PySem.W.SharedT) : ob s = hk.obs s.abs := He.obsDG_eq (HandSHeadRun.getT_eq s)
theorem run (w : World) : HandSHeadRun.RunEq R (PySem.W.view R.prog [44]) hk ob 4000 loose w := by
  intro os
  kernel_rfl
/-! the end -/
theorem Df.base0 {P : Program} {w : World} {K : PySem.W.Frag} {mg : PySem.Str → Option Value} {base : Heap} {x : PySem.Str} {st : Stmt} {ps : List PySem.Str} (D : Df K mg x st)
    (bnd : ∀ (kV doc pm : Value) (an : Option Addr) (cdv ct : Value) (us : List Value), us.length = ps.length → bindArgs (PySem.W.fnOf x x (defArgs st) (defBody st) (defScope st) .none kV doc pm an cdv ct) ⟨us, []⟩ = pure (ps.zip us)) : Cal P w K mg base x 0 ps (fun _ _ _ _ => False) := by
  obtain ⟨f, fd, F, hm⟩ := D
  exact ⟨f, fd, ⟨fun _ _ _ _ h => h.elim, fun _ _ _ _ _ _ _ _ _ _ _ _ _ h => h.elim⟩, hm, F.kp, F.bindsN bnd⟩
theorem facts {P : Program} {w : World} {K : PySem.W.Frag} {h : Heap} {mg : PySem.Str → Option Value} {f : Addr} (X : K.In h) (G : h.Ns mainGlobals mg) (hfa : mg ("law" : PySem.Str) = some (.ref f)) (c : He.SaysD fa fn K) :
    ∃ fd : FuncData, (∀ (s : Shared) (v : Value), BindsTo s fd ⟨[v], []⟩ [("_law_script", v)]) ∧ ∀ base : Heap, K.In base → base.Ns mainGlobals mg → FnOk P w K mg base CX0 11 f fd ["_law_script"] (spLaw K) := by
  have D_value_at : Df K mg "value_at" s_value_at := by
    obtain ⟨fd, F⟩ := c.def_ 0 (d := _) rfl
    exact ⟨_, fd, F, He.glo_ok X G (c.fact 0 (f := .glo "value_at") rfl)⟩
  have D_holds : Df K mg "holds" s_holds := by
    obtain ⟨fd, F⟩ := c.def_ 1 (d := _) rfl
    exact ⟨_, fd, F, He.glo_ok X G (c.fact 1 (f := .glo "holds") rfl)⟩
  have D_case_for : Df K mg "case_for" s_case_for := by
    obtain ⟨fd, F⟩ := c.def_ 2 (d := _) rfl
    exact ⟨_, fd, F, He.glo_ok X G (c.fact 2 (f := .glo "case_for") rfl)⟩
  have D_read : Df K mg "read" s_read := by
    obtain ⟨fd, F⟩ := c.def_ 3 (d := _) rfl
    exact ⟨_, fd, F, He.glo_ok X G (c.fact 3 (f := .glo "read") rfl)⟩
  have D_answers_from : Df K mg "answers_from" s_answers_from := by
    obtain ⟨fd, F⟩ := c.def_ 4 (d := _) rfl
    exact ⟨_, fd, F, He.glo_ok X G (c.fact 4 (f := .glo "answers_from") rfl)⟩
  have D_ranks_of : Df K mg "ranks_of" s_ranks_of := by
    obtain ⟨fd, F⟩ := c.def_ 5 (d := _) rfl
    exact ⟨_, fd, F, He.glo_ok X G (c.fact 5 (f := .glo "ranks_of") rfl)⟩
  have D_spots_of : Df K mg "spots_of" s_spots_of := by
    obtain ⟨fd, F⟩ := c.def_ 6 (d := _) rfl
    exact ⟨_, fd, F, He.glo_ok X G (c.fact 6 (f := .glo "spots_of") rfl)⟩
  have D_with_values : Df K mg "with_values" s_with_values := by
    obtain ⟨fd, F⟩ := c.def_ 7 (d := _) rfl
    exact ⟨_, fd, F, He.glo_ok X G (c.fact 7 (f := .glo "with_values") rfl)⟩
  have D_needed_by : Df K mg "needed_by" s_needed_by := by
    obtain ⟨fd, F⟩ := c.def_ 8 (d := _) rfl
    exact ⟨_, fd, F, He.glo_ok X G (c.fact 8 (f := .glo "needed_by") rfl)⟩
  have D_needed : Df K mg "needed" s_needed := by
    obtain ⟨fd, F⟩ := c.def_ 9 (d := _) rfl
    exact ⟨_, fd, F, He.glo_ok X G (c.fact 9 (f := .glo "needed") rfl)⟩
  have D_l_draws : Df K mg "_law_draws" s_l_draws := by
    obtain ⟨fd, F⟩ := c.def_ 10 (d := _) rfl
    exact ⟨_, fd, F, He.glo_ok X G (c.fact 10 (f := .glo "_law_draws") rfl)⟩
  have D_l_take : Df K mg "_law_take" s_l_take := by
    obtain ⟨fd, F⟩ := c.def_ 11 (d := _) rfl
    exact ⟨_, fd, F, He.glo_ok X G (c.fact 11 (f := .glo "_law_take") rfl)⟩
  have D_l_cell : Df K mg "_law_cell" s_l_cell := by
    obtain ⟨fd, F⟩ := c.def_ 12 (d := _) rfl
    exact ⟨_, fd, F, He.glo_ok X G (c.fact 12 (f := .glo "_law_cell") rfl)⟩
  have D_l_condition : Df K mg "_law_condition" s_l_condition := by
    obtain ⟨fd, F⟩ := c.def_ 13 (d := _) rfl
    exact ⟨_, fd, F, He.glo_ok X G (c.fact 13 (f := .glo "_law_condition") rfl)⟩
  have D_l_drawn_case : Df K mg "_law_drawn_case" s_l_drawn_case := by
    obtain ⟨fd, F⟩ := c.def_ 14 (d := _) rfl
    exact ⟨_, fd, F, He.glo_ok X G (c.fact 14 (f := .glo "_law_drawn_case") rfl)⟩
  have D_l_drawn_machine : Df K mg "_law_drawn_machine" s_l_drawn_machine := by
    obtain ⟨fd, F⟩ := c.def_ 15 (d := _) rfl
    exact ⟨_, fd, F, He.glo_ok X G (c.fact 15 (f := .glo "_law_drawn_machine") rfl)⟩
  have D_l_shaped_machine : Df K mg "_law_shaped_machine" s_l_shaped_machine := by
    obtain ⟨fd, F⟩ := c.def_ 16 (d := _) rfl
    exact ⟨_, fd, F, He.glo_ok X G (c.fact 16 (f := .glo "_law_shaped_machine") rfl)⟩
  have D_l_with_case : Df K mg "_law_with_case" s_l_with_case := by
    obtain ⟨fd, F⟩ := c.def_ 17 (d := _) rfl
    exact ⟨_, fd, F, He.glo_ok X G (c.fact 17 (f := .glo "_law_with_case") rfl)⟩
  have D_l_changed : Df K mg "_law_changed" s_l_changed := by
    obtain ⟨fd, F⟩ := c.def_ 18 (d := _) rfl
    exact ⟨_, fd, F, He.glo_ok X G (c.fact 18 (f := .glo "_law_changed") rfl)⟩
  have D_l_machine : Df K mg "_law_machine" s_l_machine := by
    obtain ⟨fd, F⟩ := c.def_ 19 (d := _) rfl
    exact ⟨_, fd, F, He.glo_ok X G (c.fact 19 (f := .glo "_law_machine") rfl)⟩
  have D_l_with_tag : Df K mg "_law_with_tag" s_l_with_tag := by
    obtain ⟨fd, F⟩ := c.def_ 20 (d := _) rfl
    exact ⟨_, fd, F, He.glo_ok X G (c.fact 20 (f := .glo "_law_with_tag") rfl)⟩
  have D_l_at : Df K mg "_law_at" s_l_at := by
    obtain ⟨fd, F⟩ := c.def_ 21 (d := _) rfl
    exact ⟨_, fd, F, He.glo_ok X G (c.fact 21 (f := .glo "_law_at") rfl)⟩
  have D_l_holds : Df K mg "_law_holds" s_l_holds := by
    obtain ⟨fd, F⟩ := c.def_ 22 (d := _) rfl
    exact ⟨_, fd, F, He.glo_ok X G (c.fact 22 (f := .glo "_law_holds") rfl)⟩
  have D_l_case : Df K mg "_law_case" s_l_case := by
    obtain ⟨fd, F⟩ := c.def_ 23 (d := _) rfl
    exact ⟨_, fd, F, He.glo_ok X G (c.fact 23 (f := .glo "_law_case") rfl)⟩
  have D_l_read : Df K mg "_law_read" s_l_read := by
    obtain ⟨fd, F⟩ := c.def_ 24 (d := _) rfl
    exact ⟨_, fd, F, He.glo_ok X G (c.fact 24 (f := .glo "_law_read") rfl)⟩
  have D_l_ranks : Df K mg "_law_ranks" s_l_ranks := by
    obtain ⟨fd, F⟩ := c.def_ 25 (d := _) rfl
    exact ⟨_, fd, F, He.glo_ok X G (c.fact 25 (f := .glo "_law_ranks") rfl)⟩
  have D_l_many : Df K mg "_law_many" s_l_many := by
    obtain ⟨fd, F⟩ := c.def_ 26 (d := _) rfl
    exact ⟨_, fd, F, He.glo_ok X G (c.fact 26 (f := .glo "_law_many") rfl)⟩
  have D_l_log : Df K mg "_law_log" s_l_log := by
    obtain ⟨fd, F⟩ := c.def_ 27 (d := _) rfl
    exact ⟨_, fd, F, He.glo_ok X G (c.fact 27 (f := .glo "_law_log") rfl)⟩
  have D_l_shown : Df K mg "_law_shown" s_l_shown := by
    obtain ⟨fd, F⟩ := c.def_ 28 (d := _) rfl
    exact ⟨_, fd, F, He.glo_ok X G (c.fact 28 (f := .glo "_law_shown") rfl)⟩
  have D_l_path : Df K mg "_law_path" s_l_path := by
    obtain ⟨fd, F⟩ := c.def_ 29 (d := _) rfl
    exact ⟨_, fd, F, He.glo_ok X G (c.fact 29 (f := .glo "_law_path") rfl)⟩
  have D_l_placed_in : Df K mg "_law_placed_in" s_l_placed_in := by
    obtain ⟨fd, F⟩ := c.def_ 30 (d := _) rfl
    exact ⟨_, fd, F, He.glo_ok X G (c.fact 30 (f := .glo "_law_placed_in") rfl)⟩
  have D_l_items : Df K mg "_law_items" s_l_items := by
    obtain ⟨fd, F⟩ := c.def_ 31 (d := _) rfl
    exact ⟨_, fd, F, He.glo_ok X G (c.fact 31 (f := .glo "_law_items") rfl)⟩
  have D_l_numbers : Df K mg "_law_numbers" s_l_numbers := by
    obtain ⟨fd, F⟩ := c.def_ 32 (d := _) rfl
    exact ⟨_, fd, F, He.glo_ok X G (c.fact 32 (f := .glo "_law_numbers") rfl)⟩
  have D_l_parting : Df K mg "_law_parting" s_l_parting := by
    obtain ⟨fd, F⟩ := c.def_ 33 (d := _) rfl
    exact ⟨_, fd, F, He.glo_ok X G (c.fact 33 (f := .glo "_law_parting") rfl)⟩
  have D_l_spaced : Df K mg "_law_spaced" s_l_spaced := by
    obtain ⟨fd, F⟩ := c.def_ 34 (d := _) rfl
    exact ⟨_, fd, F, He.glo_ok X G (c.fact 34 (f := .glo "_law_spaced") rfl)⟩
  have D_l_any_type : Df K mg "_law_any_type" s_l_any_type := by
    obtain ⟨fd, F⟩ := c.def_ 35 (d := _) rfl
    exact ⟨_, fd, F, He.glo_ok X G (c.fact 35 (f := .glo "_law_any_type") rfl)⟩
  have T : Tx K mg := ⟨He.free_ok X G (c.fact 38 (f := .free "all") rfl), He.free_ok X G (c.fact 39 (f := .free "any") rfl), He.free_ok X G (c.fact 40 (f := .free "enumerate") rfl), He.free_ok X G (c.fact 41 (f := .free "tuple") rfl), He.free_ok X G (c.fact 42 (f := .free "sorted") rfl), He.free_ok X G (c.fact 43 (f := .free "set") rfl), He.free_ok X G (c.fact 44 (f := .free "len") rfl), He.free_ok X G (c.fact 45 (f := .free "range") rfl), He.free_ok X G (c.fact 46 (f := .free "list") rfl), He.free_ok X G (c.fact 47 (f := .free "int") rfl), He.int_ok X G (c.fact 48 (f := .int "READ" (-1)) rfl), He.int_ok X G (c.fact 49 (f := .int "NOTHING" (-2)) rfl)⟩
  have TC : Tc K (He.ga K "Pair") := ⟨He.cls_ok (c.fact 50 (f := .cls "Pair") rfl), He.noat_ok (c.fact 52 (f := .noat "Pair" "one") rfl), He.noat_ok (c.fact 53 (f := .noat "Pair" "other") rfl), He.noat_ok (c.fact 54 (f := .noat "Pair" "closed") rfl)⟩
  have D_Pair_init : Dk K mg (He.ga K "Pair") "Pair" "Pair.__init__" s_Pair_init := by
    obtain ⟨fd, F⟩ := c.def_ 37 (d := _) rfl
    exact ⟨_, fd, F, He.mkr_ok (c.fact 51 (f := .mkr "Pair") rfl), He.glo_ok X G (c.fact 37 (f := .glo "Pair") rfl)⟩
  have D_Pair_joint_type : Dm K (He.ga K "Pair") "joint_type" "Pair.joint_type" s_Pair_joint_type := by
    obtain ⟨fd, F⟩ := c.def_ 38 (d := _) rfl
    exact ⟨_, fd, F, TC.cl, He.meth_ok (c.fact 55 (f := .meth "Pair" "joint_type") rfl)⟩
  have D_Pair_contents : Dm K (He.ga K "Pair") "contents" "Pair.contents" s_Pair_contents := by
    obtain ⟨fd, F⟩ := c.def_ 39 (d := _) rfl
    exact ⟨_, fd, F, TC.cl, He.meth_ok (c.fact 56 (f := .meth "Pair" "contents") rfl)⟩
  have D_Pair_after : Dm K (He.ga K "Pair") "after" "Pair.after" s_Pair_after := by
    obtain ⟨fd, F⟩ := c.def_ 40 (d := _) rfl
    exact ⟨_, fd, F, TC.cl, He.meth_ok (c.fact 57 (f := .meth "Pair" "after") rfl)⟩
  have D_Pair_is_parted : Dm K (He.ga K "Pair") "is_parted" "Pair.is_parted" s_Pair_is_parted := by
    obtain ⟨fd, F⟩ := c.def_ 41 (d := _) rfl
    exact ⟨_, fd, F, TC.cl, He.meth_ok (c.fact 58 (f := .meth "Pair" "is_parted") rfl)⟩
  obtain ⟨fd, F⟩ := c.def_ 36 (d := _) rfl
  have D_law : Dl K "law" s_law f fd := by
    have e := hfa.symm.trans (He.glo_ok X G (c.fact 36 (f := .glo "law") rfl))
    injection e with e
    injection e with e
    rw [e]
    exact F
  have main : ∀ base : Heap, FnOk P w K mg base CX0 11 f fd ["_law_script"] (spLaw K) := fun base => by
    have C_value_at := c_value_at (P := P) (w := w) (base := base) D_value_at T
    have Z_holds := Df.base0 (P := P) (w := w) (base := base) (ps := ["condition", "value", "held"]) D_holds (fun _ _ _ _ _ _ us hl => match us, hl with | [_, _, _], _ => rfl)
    have Y_holds := c_holds (P := P) (w := w) (base := base) (kind := isLf) D_holds T (fun c h => .inl h) C_value_at Z_holds
    have C_holds := c_holds (P := P) (w := w) (base := base) (kind := fun _ => True) D_holds T (fun c _ => .inr fun _ _ _ _ h => h) C_value_at Y_holds
    have C_case_for := c_case_for (P := P) (w := w) (base := base) D_case_for T C_holds
    have C_read := c_read (P := P) (w := w) (base := base) D_read T C_case_for C_value_at
    have C_answers_from := c_answers_from (P := P) (w := w) (base := base) D_answers_from T C_read
    have C_ranks_of := c_ranks_of (P := P) (w := w) (base := base) D_ranks_of T
    have C_spots_of := c_spots_of (P := P) (w := w) (base := base) D_spots_of T
    have C_with_values := c_with_values (P := P) (w := w) (base := base) D_with_values T
    have C_l_at := c_l_at (P := P) (w := w) (base := base) D_l_at T
    have Z_l_holds := Df.base0 (P := P) (w := w) (base := base) (ps := ["_law_condition_here", "_law_value", "_law_held"]) D_l_holds (fun _ _ _ _ _ _ us hl => match us, hl with | [_, _, _], _ => rfl)
    have Y_l_holds := c_l_holds (P := P) (w := w) (base := base) (kind := isLf) D_l_holds T (fun c h => .inl h) C_l_at Z_l_holds
    have C_l_holds := c_l_holds (P := P) (w := w) (base := base) (kind := fun _ => True) D_l_holds T (fun c _ => .inr fun _ _ _ _ h => h) C_l_at Y_l_holds
    have C_l_case := c_l_case (P := P) (w := w) (base := base) D_l_case T C_l_holds
    have C_l_read := c_l_read (P := P) (w := w) (base := base) D_l_read T C_l_case C_l_at
    have C_l_ranks := c_l_ranks (P := P) (w := w) (base := base) D_l_ranks T
    have C_l_many := c_l_many (P := P) (w := w) (base := base) D_l_many T
    have C_l_shown := c_l_shown (P := P) (w := w) (base := base) D_l_shown T
    have C_l_spaced := c_l_spaced (P := P) (w := w) (base := base) D_l_spaced T
    have C_l_take := c_l_take (P := P) (w := w) (base := base) D_l_take T
    have C_l_cell := c_l_cell (P := P) (w := w) (base := base) D_l_cell T C_l_take
    have Z_l_condition := Df.base0 (P := P) (w := w) (base := base) (ps := ["_law_draws_here", "_law_registers", "_law_depth"]) D_l_condition (fun _ _ _ _ _ _ us hl => match us, hl with | [_, _, _], _ => rfl)
    have Y_l_condition := c_l_condition (P := P) (w := w) (base := base) (kind := isLf) (dp := 1) D_l_condition T (fun _ => trivial) (fun h => absurd h (by decide)) C_l_take Z_l_condition
    have C_l_condition := c_l_condition (P := P) (w := w) (base := base) (kind := fun _ => True) (dp := 2) D_l_condition T (fun _ => trivial) (fun _ => ⟨fun _ => trivial, rfl, fun _ _ _ _ h => h⟩) C_l_take Y_l_condition
    have C_l_drawn_case := c_l_drawn_case (P := P) (w := w) (base := base) D_l_drawn_case T C_l_take
    have C_l_drawn_machine := c_l_drawn_machine (P := P) (w := w) (base := base) D_l_drawn_machine T C_l_take C_l_condition C_l_drawn_case
    have C_l_shaped_machine := c_l_shaped_machine (P := P) (w := w) (base := base) D_l_shaped_machine T C_l_take
    have C_l_with_case := c_l_with_case (P := P) (w := w) (base := base) D_l_with_case T
    have C_l_changed := c_l_changed (P := P) (w := w) (base := base) D_l_changed T C_l_take C_l_drawn_case C_l_condition C_l_with_case
    have C_l_with_tag := c_l_with_tag (P := P) (w := w) (base := base) D_l_with_tag T C_l_condition C_l_drawn_case
    have C_l_machine := c_l_machine (P := P) (w := w) (base := base) D_l_machine T C_l_take C_l_drawn_machine C_l_shaped_machine C_l_changed C_l_with_tag
    have C_l_any_type := c_l_any_type (P := P) (w := w) (base := base) D_l_any_type T C_l_take C_l_ranks
    have C_l_log := c_l_log (P := P) (w := w) (base := base) D_l_log T C_l_take C_l_cell
    have C_l_draws := c_l_draws (P := P) (w := w) (base := base) D_l_draws T
    have C_Pair := c_Pair_init (P := P) (w := w) (base := base) D_Pair_init T TC
    have C_Pair_joint_type := c_Pair_joint_type (P := P) (w := w) (base := base) D_Pair_joint_type T TC C_ranks_of
    have C_Pair_contents := c_Pair_contents (P := P) (w := w) (base := base) D_Pair_contents T TC
    have C_Pair_after := c_Pair_after (P := P) (w := w) (base := base) D_Pair_after T TC C_Pair_contents C_read C_Pair_joint_type
    have C_Pair_is_parted := c_Pair_is_parted (P := P) (w := w) (base := base) D_Pair_is_parted T TC C_spots_of C_Pair_joint_type C_Pair_after
    have C_needed_by := c_needed_by (P := P) (w := w) (base := base) D_needed_by T C_spots_of C_with_values C_Pair_is_parted
    have C_needed := c_needed (P := P) (w := w) (base := base) D_needed T C_Pair C_needed_by
    have C_l_path := c_l_path (P := P) (w := w) (base := base) D_l_path T C_l_ranks C_l_shown C_l_many C_l_read
    have C_l_placed_in := c_l_placed_in (P := P) (w := w) (base := base) D_l_placed_in T
    have C_l_items := c_l_items (P := P) (w := w) (base := base) D_l_items T
    have C_l_numbers := c_l_numbers (P := P) (w := w) (base := base) D_l_numbers T
    have C_l_parting := c_l_parting (P := P) (w := w) (base := base) D_l_parting T C_l_path C_l_read C_l_placed_in C_l_items C_l_numbers
    have C_law := c_law (P := P) (w := w) (base := base) D_law T C_l_draws C_l_machine C_l_take C_l_any_type C_needed C_l_many C_l_spaced C_l_parting C_l_log C_answers_from
    exact C_law
  have b := FunD.bindsA (ps := ["_law_script"]) F fun _ _ _ _ _ _ us hl => match us, hl with | [_], _ => rfl
  exact ⟨fd, fun s v => b s [v] rfl, fun base _ _ => main base⟩
end K59
open PySem PySem.W PySem.Calls PyProof.Rows
theorem PySem.Challenge.cw_anyvalues_k59_whole_needed_values_are_to_holds : PySem.Challenge.rw_anyvalues_k59_whole_needed_values_are_to.Holds := by
  w_on; o_law
  refine HandSHeadRun.head_any (r := OpenLaw.row PySem.Challenge.rw_anyvalues_k59_whole_needed_values_are_to) (q := view (OpenLaw.row PySem.Challenge.rw_anyvalues_k59_whole_needed_values_are_to).prog [44]) (H := K59.hk) (ob := K59.ob) (M := 4000) (loose := K59.loose) (d := HandSHeadRun.topDef (OpenLaw.row PySem.Challenge.rw_anyvalues_k59_whole_needed_values_are_to).prog 44) (kwd := []) K59.ob_eq
    (by kernel_rfl) (fun s => by kernel_rfl) K59.run (by kernel_rfl) (by kernel_rfl) (by kernel_rfl) (by rfl) (by first | assumption | decide +kernel) (by decide +kernel) ⟨rfl, rfl, rfl, rfl, rfl, by decide +kernel⟩ ?hw ?hc
  case hw => w_witness2
  case hc =>
    refine L2.walk_ofE (l := PySem.Challenge.rw_anyvalues_k59_whole_needed_values_are_to) (n := 63) (k := 11) (x := "_law_script") (CX := L2.CX0) rfl (by decide) (by kernel_rfl) ⟨rfl, by decide, by decide⟩ ?F (fun _ _ _ _ z => z)
    intro w mg fa h Y G hmg0
    obtain ⟨K, KX, c⟩ := Y
    have hmg : mg ("law" : PySem.Str) = some (.ref fa) := by
      have e : (HandSHeadRun.topDef (OpenLaw.row PySem.Challenge.rw_anyvalues_k59_whole_needed_values_are_to).prog 44).name = ("law" : PySem.Str) := by kernel_rfl
      rw [← e]
      exact hmg0
    obtain ⟨fd, hb, hF⟩ := K59.facts (P := (PySem.Challenge.rw_anyvalues_k59_whole_needed_values_are_to).prog) (w := w) KX G hmg c
    exact ⟨K, fd, K59.spLaw K, KX, hb, fun H a ns hl hO hS => ⟨a, ns, rfl, K59.Scr.only hO hS, hl, fun _ => rfl⟩, hF⟩

