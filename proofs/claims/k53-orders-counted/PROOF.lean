import PyProof.Rows.All
import Wide.All
import OpenK.AllK
import Wide.FinOn
import PySem.Challenge.RW_leastrows_k53_orders_counted
import KE.KExcSuper
import HandS.ForMost
import HandS.Exc
import HandS.ExcInit
import HandS.ExcSuper
import HandS.ExcIs
import HandS.ExcField
import HandS.HotCalls
import KE.KOpsOwn
import KE.KCallOwn
import HandS.SlotsOwn
import HandS.ClsMeth
import HandS.Wide
import HandS.GenList
import HandS.GenYield
import HandS.TupSets
import HandS.SetBool
import HandS.List
import HandS.Iter
import KE.GoesEnum
import KE.KStateDown
import HandS.Base
import HandS.Call
import HandS.Ends
import HandS.More
import HandS.Words
import HandS.WordsExc
import HandS.Defaults
import HandS.Head0
import HandS.Head1
import HandS.Head2
import HandS.HeadEnd
import HandS.HeadHook1
import HandS.HeadHook2
import HandS.ForExc
import HandS.IsInst
import HandS.FStr
import HandS.StrMore
import HandS.Codes
import HandS.Style
import HandS.RaiseMore
import HandS.Zip
import HandS.TupAny
import HandS.Conv
import HandS.Walk
import HandS.WideBits
import HandS.Text
set_option Elab.async false
set_option linter.all false
set_option maxRecDepth 100000
set_option maxHeartbeats 4000000
set_option exponentiation.threshold 2000
/-! directed lists of arcs: what is reached, what has no way round; how many ways of turning ties have none (k53) -/
namespace KG
abbrev Arc := Nat × Nat
inductive Rch (A : List Arc) (x : Nat) : Nat → Prop
  | refl : Rch A x x
  | tail {y z : Nat} : Rch A x y → (y, z) ∈ A → Rch A x z
namespace Rch
variable {A B : List Arc} {x y z : Nat}
theorem one (h : (x, y) ∈ A) : Rch A x y := .tail .refl h
theorem trans (h : Rch A x y) (k : Rch A y z) : Rch A x z := by
  induction k with
  | refl => exact h
  | tail _ m ih => exact .tail ih m
theorem head (m : (x, y) ∈ A) (h : Rch A y z) : Rch A x z := trans (one m) h
theorem mono (hs : ∀ a ∈ A, a ∈ B) (h : Rch A x y) : Rch B x y := by
  induction h with
  | refl => exact .refl
  | tail _ m ih => exact .tail ih (hs _ m)
theorem congr (hs : ∀ a, a ∈ A ↔ a ∈ B) : Rch A x y ↔ Rch B x y := ⟨mono fun a h => (hs a).mp h, mono fun a h => (hs a).mpr h⟩
theorem map (f : Nat → Nat) (h : Rch A x y) : Rch (A.map fun a => (f a.1, f a.2)) (f x) (f y) := by
  induction h with
  | refl => exact .refl
  | tail _ m ih => exact .tail ih (List.mem_map.mpr ⟨_, m, rfl⟩)
theorem cases_head (h : Rch A x z) : x = z ∨ ∃ y, (x, y) ∈ A ∧ Rch A y z := by
  induction h with
  | refl => exact .inl rfl
  | tail _ m ih =>
    rcases ih with rfl | ⟨w, h1, h2⟩
    · exact .inr ⟨_, m, .refl⟩
    · exact .inr ⟨w, h1, .tail h2 m⟩
theorem cases_tail (h : Rch A x z) : x = z ∨ ∃ y, Rch A x y ∧ (y, z) ∈ A := by
  cases h with
  | refl => exact .inl rfl
  | tail h m => exact .inr ⟨_, h, m⟩
/-- one arc more -/
theorem snoc {u v : Nat} : Rch (A ++ [(u, v)]) x y ↔ Rch A x y ∨ (Rch A x u ∧ Rch A v y) := by
  constructor
  · intro h
    induction h with
    | refl => exact .inl .refl
    | tail _ m ih =>
      rcases List.mem_append.mp m with m | m
      · rcases ih with i | ⟨i, j⟩
        · exact .inl (.tail i m)
        · exact .inr ⟨i, .tail j m⟩
      · have e := List.mem_singleton.mp m
        cases e
        rcases ih with i | ⟨i, j⟩
        · exact .inr ⟨i, .refl⟩
        · exact .inr ⟨i, .refl⟩
  · have sub : ∀ a ∈ A, a ∈ A ++ [(u, v)] := fun a h => List.mem_append_left _ h
    rintro (h | ⟨h, k⟩)
    · exact h.mono sub
    · exact (Rch.tail (h.mono sub) (List.mem_append_right _ (List.mem_singleton.mpr rfl))).trans (k.mono sub)
end Rch
/-- no way round -/
def Acy (A : List Arc) : Prop := ∀ a ∈ A, ¬ Rch A a.2 a.1
theorem Acy.nil : Acy [] := fun a h => by cases h
theorem Acy.congr {A B : List Arc} (hs : ∀ a, a ∈ A ↔ a ∈ B) : Acy A ↔ Acy B :=
  ⟨fun h a m r => h a ((hs a).mpr m) ((Rch.congr hs).mpr r), fun h a m r => h a ((hs a).mp m) ((Rch.congr hs).mp r)⟩
theorem Acy.sub {A B : List Arc} (hs : ∀ a ∈ A, a ∈ B) (h : Acy B) : Acy A := fun a m r => h a (hs a m) (r.mono hs)
theorem acy_snoc {A : List Arc} {u v : Nat} : Acy (A ++ [(u, v)]) ↔ Acy A ∧ ¬ Rch A v u := by
  constructor
  · intro h
    refine ⟨h.sub fun a m => List.mem_append_left _ m, fun r => ?_⟩
    exact h (u, v) (List.mem_append_right _ (List.mem_singleton.mpr rfl)) (Rch.snoc.mpr (.inl r))
  · rintro ⟨h, n⟩ a m r
    rcases List.mem_append.mp m with m | m
    · rcases Rch.snoc.mp r with r | ⟨r1, r2⟩
      · exact h a m r
      · exact n ((r2.trans (.one m)).trans r1)
    · have e := List.mem_singleton.mp m
      subst e
      rcases Rch.snoc.mp r with r | ⟨r1, r2⟩
      · exact n r
      · exact n r1
/-! ### one point made of two -/
/-- f makes one point of u and v, and no others of n -/
structure Glue (n : Nat) (f : Nat → Nat) (u v : Nat) : Prop where
  hu : u < n
  hv : v < n
  ne : u ≠ v
  iff_ : ∀ x y, x < n → y < n → (f x = f y ↔ x = y ∨ (x = u ∧ y = v) ∨ (x = v ∧ y = u))
def In (n : Nat) (A : List Arc) : Prop := ∀ a ∈ A, a.1 < n ∧ a.2 < n
theorem In.snoc {n : Nat} {A : List Arc} {a b : Nat} (h : In n A) (ha : a < n) (hb : b < n) : In n (A ++ [(a, b)]) := fun c m => by
  rcases List.mem_append.mp m with m | m
  · exact h c m
  · rw [List.mem_singleton.mp m]
    exact ⟨ha, hb⟩
theorem Rch.lt {n : Nat} {A : List Arc} {x y : Nat} (hA : In n A) (hx : x < n) (h : Rch A x y) : y < n := by
  cases h with
  | refl => exact hx
  | tail _ m => exact (hA _ m).2
abbrev mapA (f : Nat → Nat) (A : List Arc) : List Arc := A.map fun a => (f a.1, f a.2)
section
variable {n : Nat} {f : Nat → Nat} {u v : Nat} {A : List Arc}
theorem Glue.same (g : Glue n f u v) : f u = f v := (g.iff_ u v g.hu g.hv).mpr (.inr (.inl ⟨rfl, rfl⟩))
/-- what is reached when the two are one -/
theorem Glue.lift (g : Glue n f u v) (hA : In n A) {x q : Nat} (hx : x < n) (n1 : ¬ Rch A u v) (n2 : ¬ Rch A v u) (h : Rch (mapA f A) (f x) q) :
    ∃ y, y < n ∧ f y = q ∧ (Rch A x y ∨ (Rch A x u ∧ Rch A v y) ∨ (Rch A x v ∧ Rch A u y)) := by
  induction h with
  | refl => exact ⟨x, hx, rfl, .inl .refl⟩
  | tail _ m ih =>
    obtain ⟨y, hy, rfl, r⟩ := ih
    obtain ⟨b, mb, e⟩ := List.mem_map.mp m
    obtain ⟨b1, b2⟩ := b
    have e1 : f b1 = f y := congrArg Prod.fst e
    have e2 : f b2 = _ := congrArg Prod.snd e
    have hb := hA _ mb
    refine ⟨b2, hb.2, e2, ?_⟩
    rcases (g.iff_ b1 y hb.1 hy).mp e1 with rfl | ⟨rfl, rfl⟩ | ⟨rfl, rfl⟩
    · rcases r with r | ⟨r, r'⟩ | ⟨r, r'⟩
      · exact .inl (.tail r mb)
      · exact .inr (.inl ⟨r, .tail r' mb⟩)
      · exact .inr (.inr ⟨r, .tail r' mb⟩)
    · -- b1 = u, y = v
      rcases r with r | ⟨r, _⟩ | ⟨r, r'⟩
      · exact .inr (.inr ⟨r, .one mb⟩)
      · exact .inl (.tail r mb)
      · exact absurd r' n1
    · rcases r with r | ⟨r, r'⟩ | ⟨r, _⟩
      · exact .inr (.inl ⟨r, .one mb⟩)
      · exact absurd r' n2
      · exact .inl (.tail r mb)
theorem acy_glue (g : Glue n f u v) (hA : In n A) : Acy (mapA f A) ↔ Acy A ∧ ¬ Rch A u v ∧ ¬ Rch A v u := by
  have side : ∀ p q : Nat, Glue n f p q → Acy (mapA f A) → ¬ Rch A p q := fun p q g h r => by
    rcases r.cases_tail with e | ⟨w, r1, m⟩
    · exact g.ne e
    · refine h (f w, f q) (List.mem_map.mpr ⟨_, m, rfl⟩) ?_
      show Rch (mapA f A) (f q) (f w)
      rw [← g.same]
      exact r1.map f
  constructor
  · intro h
    refine ⟨fun a m r => h (f a.1, f a.2) (List.mem_map.mpr ⟨a, m, rfl⟩) (r.map f), side u v g h, side v u ⟨g.hv, g.hu, Ne.symm g.ne, fun x y hx hy => ?_⟩ h⟩
    rw [g.iff_ x y hx hy, or_comm (a := x = u ∧ y = v)]
  · rintro ⟨h, n1, n2⟩ b m r
    obtain ⟨a, ma, rfl⟩ := List.mem_map.mp m
    obtain ⟨a1, a2⟩ := a
    have hb := hA _ ma
    obtain ⟨y, hy, e, r⟩ := g.lift hA hb.2 n1 n2 r
    rcases (g.iff_ y a1 hy hb.1).mp e with rfl | ⟨rfl, rfl⟩ | ⟨rfl, rfl⟩
    · rcases r with r | ⟨r, r'⟩ | ⟨r, r'⟩
      · exact h _ ma r
      · exact n2 ((r'.tail ma).trans r)
      · exact n1 ((r'.tail ma).trans r)
    · -- y = u, a1 = v
      rcases r with r | ⟨r, r'⟩ | ⟨r, _⟩
      · exact n2 (.head ma r)
      · exact n2 (.head ma r)
      · exact h _ ma r
    · rcases r with r | ⟨r, _⟩ | ⟨r, r'⟩
      · exact n1 (.head ma r)
      · exact h _ ma r
      · exact n1 (.head ma r)
end
/-! ### how many ways -/
open Classical in
/-- the ways of turning the ties T beside the arcs A so that no way round is left -/
noncomputable def cnt (A : List Arc) : List Arc → Nat
  | [] => if Acy A then 1 else 0
  | (a, b) :: T => cnt (A ++ [(b, a)]) T + cnt (A ++ [(a, b)]) T
open Classical in
theorem cnt_nil {A : List Arc} : cnt A [] = if Acy A then 1 else 0 := rfl
theorem cnt_cons {A T : List Arc} {a b : Nat} : cnt A ((a, b) :: T) = cnt (A ++ [(b, a)]) T + cnt (A ++ [(a, b)]) T := rfl
theorem cnt_congr : ∀ {T A B : List Arc}, (∀ a, a ∈ A ↔ a ∈ B) → cnt A T = cnt B T
  | [], A, B, h => by
    rw [cnt_nil, cnt_nil]
    by_cases c : Acy A
    · rw [if_pos c, if_pos ((Acy.congr h).mp c)]
    · rw [if_neg c, if_neg (fun z => c ((Acy.congr h).mpr z))]
  | (a, b) :: T, A, B, h => by
    simp only [cnt_cons]
    have k : ∀ c : Arc, ∀ x, x ∈ A ++ [c] ↔ x ∈ B ++ [c] := fun c x => by simp only [List.mem_append, h]
    rw [cnt_congr (k (b, a)), cnt_congr (k (a, b))]
theorem cnt_zero : ∀ {T A : List Arc}, ¬ Acy A → cnt A T = 0
  | [], A, h => by
    rw [cnt_nil, if_neg h]
  | (a, b) :: T, A, h => by
    simp only [cnt_cons]
    have k : ∀ c : Arc, ¬ Acy (A ++ [c]) := fun c z => h (z.sub fun x m => List.mem_append_left _ m)
    rw [cnt_zero (k (b, a)), cnt_zero (k (a, b))]
theorem swap2 {A : List Arc} {c d : Arc} : ∀ x, x ∈ (A ++ [c]) ++ [d] ↔ x ∈ (A ++ [d]) ++ [c] := fun x => by
  simp only [List.mem_append, List.mem_singleton]
  constructor <;> rintro ((h | h) | h) <;> simp [h]
theorem cnt_perm {T T' : List Arc} (p : T.Perm T') : ∀ A, cnt A T = cnt A T' := by
  induction p with
  | nil => exact fun _ => rfl
  | cons x _ ih =>
    intro A
    obtain ⟨a, b⟩ := x
    simp only [cnt_cons]
    rw [ih, ih]
  | swap x y l =>
    intro A
    obtain ⟨a, b⟩ := x
    obtain ⟨c, d⟩ := y
    simp only [cnt_cons]
    rw [cnt_congr (swap2 (A := A) (c := (b, a)) (d := (d, c))), cnt_congr (swap2 (A := A) (c := (b, a)) (d := (c, d))), cnt_congr (swap2 (A := A) (c := (a, b)) (d := (d, c))), cnt_congr (swap2 (A := A) (c := (a, b)) (d := (c, d)))]
    omega
  | trans _ _ i j => exact fun A => (i A).trans (j A)
theorem cnt_flip {A T : List Arc} {a b : Nat} : cnt A ((a, b) :: T) = cnt A ((b, a) :: T) := by
  simp only [cnt_cons]
  omega
theorem two_round {A : List Arc} {a b : Nat} (h1 : (a, b) ∈ A) (h2 : (b, a) ∈ A) : ¬ Acy A := fun z => z (a, b) h1 (.one h2)
theorem cnt_twice {A T : List Arc} {a b : Nat} : cnt A ((a, b) :: (a, b) :: T) = cnt A ((a, b) :: T) := by
  simp only [cnt_cons]
  have z1 : cnt (A ++ [(b, a)] ++ [(a, b)]) T = 0 := cnt_zero (two_round (a := a) (b := b) (by simp) (by simp))
  have z2 : cnt (A ++ [(a, b)] ++ [(b, a)]) T = 0 := cnt_zero (two_round (a := a) (b := b) (by simp) (by simp))
  have e : ∀ c : Arc, cnt (A ++ [c] ++ [c]) T = cnt (A ++ [c]) T := fun c => cnt_congr fun x => by simp
  rw [z1, z2, e, e]
  omega
theorem cnt_loop {A T : List Arc} {a : Nat} : cnt A ((a, a) :: T) = 0 := by
  simp only [cnt_cons]
  have k : ¬ Acy (A ++ [(a, a)]) := fun z => z (a, a) (by simp) .refl
  rw [cnt_zero k]
theorem cnt_loopM {A T : List Arc} {a : Nat} (h : (a, a) ∈ T) : cnt A T = 0 := by
  rw [cnt_perm (List.perm_cons_erase h), cnt_loop]
theorem cnt_mem {A T : List Arc} {t : Arc} (h : t ∈ T) : cnt A (t :: T) = cnt A T := by
  obtain ⟨a, b⟩ := t
  have p := List.perm_cons_erase h
  rw [cnt_perm (p.cons (a, b)), cnt_twice, cnt_perm p]
/-- the lesser of the two first -/
def nrm (t : Arc) : Arc := (min t.1 t.2, max t.1 t.2)
theorem cnt_nrm : ∀ {T A : List Arc}, cnt A (T.map nrm) = cnt A T
  | [], _ => rfl
  | (a, b) :: T, A => by
    show cnt A ((min a b, max a b) :: T.map nrm) = _
    by_cases h : a ≤ b
    · rw [Nat.min_eq_left h, Nat.max_eq_right h]
      simp only [cnt_cons]
      rw [cnt_nrm, cnt_nrm]
    · rw [Nat.min_eq_right (by omega), Nat.max_eq_left (by omega), cnt_flip]
      simp only [cnt_cons]
      rw [cnt_nrm, cnt_nrm]
/-- lists with the same members -/
theorem cnt_dup : ∀ (T : List Arc), ∃ D : List Arc, D.Nodup ∧ (∀ x, x ∈ D ↔ x ∈ T) ∧ ∀ A, cnt A T = cnt A D
  | [] => ⟨[], List.nodup_nil, fun _ => Iff.rfl, fun _ => rfl⟩
  | t :: T => by
    obtain ⟨D, h1, h2, h3⟩ := cnt_dup T
    by_cases m : t ∈ T
    · exact ⟨D, h1, fun x => by rw [h2, List.mem_cons]; exact ⟨.inr, fun z => z.elim (fun e => e ▸ m) id⟩, fun A => by rw [cnt_mem m, h3]⟩
    · refine ⟨t :: D, List.nodup_cons.mpr ⟨fun z => m ((h2 t).mp z), h1⟩, fun x => by rw [List.mem_cons, List.mem_cons, h2], fun A => ?_⟩
      obtain ⟨a, b⟩ := t
      simp only [cnt_cons]
      rw [h3, h3]
theorem cnt_same {T T' A : List Arc} (h : ∀ x, x ∈ T ↔ x ∈ T') : cnt A T = cnt A T' := by
  obtain ⟨D, h1, h2, h3⟩ := cnt_dup T
  obtain ⟨D', k1, k2, k3⟩ := cnt_dup T'
  rw [h3, k3]
  exact cnt_perm ((List.perm_ext_iff_of_nodup h1 k1).mpr fun x => by rw [h2, k2, h]) A
/-- two ties less: the tie left out, the tie's places as one -/
theorem cnt_glue {n : Nat} {f : Nat → Nat} {u v : Nat} (g : Glue n f u v) : ∀ {T A : List Arc}, In n T → In n A → cnt (A ++ [(v, u)]) T + cnt (A ++ [(u, v)]) T = cnt A T + cnt (mapA f A) (mapA f T)
  | [], A, _, hA => by
    show cnt _ [] + cnt _ [] = cnt _ [] + cnt _ []
    simp only [cnt_nil]
    have e := acy_glue g hA
    by_cases c : Acy A
    · have both : ¬ (Rch A u v ∧ Rch A v u) := fun ⟨r1, r2⟩ => by
        rcases r1.cases_tail with e | ⟨w, r, m⟩
        · exact g.ne e
        · exact c _ m (r2.trans r)
      by_cases r1 : Rch A u v
      · have r2 : ¬ Rch A v u := fun z => both ⟨r1, z⟩
        rw [if_neg (fun z => (acy_snoc.mp z).2 r1), if_pos (acy_snoc.mpr ⟨c, r2⟩), if_pos c, if_neg (fun z => (e.mp z).2.1 r1)]
      · by_cases r2 : Rch A v u
        · rw [if_pos (acy_snoc.mpr ⟨c, r1⟩), if_neg (fun z => (acy_snoc.mp z).2 r2), if_pos c, if_neg (fun z => (e.mp z).2.2 r2)]
        · rw [if_pos (acy_snoc.mpr ⟨c, r1⟩), if_pos (acy_snoc.mpr ⟨c, r2⟩), if_pos c, if_pos (e.mpr ⟨c, r1, r2⟩)]
    · rw [if_neg (fun z => c (acy_snoc.mp z).1), if_neg (fun z => c (acy_snoc.mp z).1), if_neg c, if_neg (fun z => c (e.mp z).1)]
  | (a, b) :: T, A, hT, hA => by
    have ht := hT (a, b) List.mem_cons_self
    have hT' : In n T := fun x m => hT x (List.mem_cons_of_mem _ m)
    have i1 := cnt_glue g (T := T) (A := A ++ [(b, a)]) hT' (hA.snoc ht.2 ht.1)
    have i2 := cnt_glue g (T := T) (A := A ++ [(a, b)]) hT' (hA.snoc ht.1 ht.2)
    have m1 : mapA f (A ++ [(b, a)]) = mapA f A ++ [(f b, f a)] := List.map_append
    have m2 : mapA f (A ++ [(a, b)]) = mapA f A ++ [(f a, f b)] := List.map_append
    rw [m1] at i1
    rw [m2] at i2
    show cnt _ ((a, b) :: T) + cnt _ ((a, b) :: T) = cnt _ ((a, b) :: T) + cnt _ ((f a, f b) :: mapA f T)
    simp only [cnt_cons]
    rw [cnt_congr (swap2 (A := A) (c := (v, u)) (d := (b, a))), cnt_congr (swap2 (A := A) (c := (v, u)) (d := (a, b))), cnt_congr (swap2 (A := A) (c := (u, v)) (d := (b, a))), cnt_congr (swap2 (A := A) (c := (u, v)) (d := (a, b)))]
    omega
end KG
/-! the ways of turning, listed; ties that vanish; masks (k53) -/
namespace KG
/-! ### ways -/
def waysOf : List (List Int) → List (List Int)
  | [] => [[]]
  | m :: ms => m.flatMap fun s => (waysOf ms).map (s :: ·)
/-- grown by menus from the left, as the program and the law do -/
def growW (ws : List (List Int)) : List (List Int) → List (List Int)
  | [] => ws
  | m :: ms => growW (ws.flatMap fun w => m.map fun s => w ++ [s]) ms
theorem growW_eq : ∀ (ms : List (List Int)) (ws : List (List Int)), growW ws ms = ws.flatMap fun w => (waysOf ms).map (w ++ ·)
  | [], ws => by
    show ws = ws.flatMap fun w => [w ++ []]
    simp
  | m :: ms, ws => by
    show growW _ ms = _
    rw [growW_eq ms]
    show _ = ws.flatMap fun w => (m.flatMap fun s => (waysOf ms).map (s :: ·)).map (w ++ ·)
    rw [List.flatMap_assoc]
    congr 1
    funext w
    rw [List.flatMap_map, List.map_flatMap]
    congr 1
    funext s
    rw [List.map_map]
    congr 1
    funext r
    simp
theorem mem_waysOf_len : ∀ {ms : List (List Int)} {w : List Int}, w ∈ waysOf ms → w.length = ms.length
  | [], w, h => by
    rw [List.mem_singleton.mp h]
    rfl
  | m :: ms, w, h => by
    obtain ⟨s, _, h⟩ := List.mem_flatMap.mp h
    obtain ⟨r, hr, rfl⟩ := List.mem_map.mp h
    rw [List.length_cons, mem_waysOf_len hr, List.length_cons]
/-- the arcs of a way -/
def arcsOf : List Arc → List Int → List Arc
  | t :: T, s :: w => (if s = 1 then [t] else if s = -1 then [(t.2, t.1)] else []) ++ arcsOf T w
  | _, _ => []
theorem arcsOf_append : ∀ {T T' : List Arc} {w w' : List Int}, T.length = w.length → arcsOf (T ++ T') (w ++ w') = arcsOf T w ++ arcsOf T' w'
  | [], _, [], _, _ => rfl
  | t :: T, T', s :: w, w', h => by
    show _ ++ arcsOf (T ++ T') (w ++ w') = (_ ++ arcsOf T w) ++ arcsOf T' w'
    rw [arcsOf_append (by simpa using h), List.append_assoc]
  | [], _, _ :: _, _, h => by simp at h
  | _ :: _, _, [], _, h => by simp at h
theorem arcsOf_in {n : Nat} : ∀ {T : List Arc} {w : List Int}, In n T → In n (arcsOf T w)
  | [], _, _ => fun a m => by
    unfold arcsOf at m
    cases m
  | _ :: _, [], _ => fun a m => by
    unfold arcsOf at m
    cases m
  | t :: T, s :: w, h => fun a m => by
    have ht := h t List.mem_cons_self
    rcases List.mem_append.mp m with m | m
    · split at m
      · rw [List.mem_singleton.mp m]
        exact ht
      · split at m
        · rw [List.mem_singleton.mp m]
          exact ⟨ht.2, ht.1⟩
        · cases m
    · exact arcsOf_in (fun x hx => h x (List.mem_cons_of_mem _ hx)) a m
/-! ### the orders -/
open Classical in
/-- the ways of -1, 1 for the ties T behind the arcs A that leave no way round, ascending -/
noncomputable def ordL (A : List Arc) : List Arc → List (List Int)
  | [] => if Acy A then [[]] else []
  | (a, b) :: T => (ordL (A ++ [(b, a)]) T).map ((-1) :: ·) ++ (ordL (A ++ [(a, b)]) T).map (1 :: ·)
theorem ordL_len : ∀ {T A : List Arc}, (ordL A T).length = cnt A T
  | [], A => by
    unfold ordL
    rw [cnt_nil]
    split <;> rfl
  | (a, b) :: T, A => by
    unfold ordL
    rw [List.length_append, List.length_map, List.length_map, ordL_len, ordL_len, cnt_cons]
theorem ordL_nil {A : List Arc} (h : ¬ Acy A) : ∀ {T : List Arc}, ordL A T = []
  | T => List.eq_nil_of_length_eq_zero (by rw [ordL_len, cnt_zero h])
open Classical in
theorem ordL_filter : ∀ {T A : List Arc}, ordL A T = (waysOf (T.map fun _ => [-1, 1])).filter fun w => decide (Acy (A ++ arcsOf T w))
  | [], A => by
    unfold ordL
    show _ = [[]].filter _
    by_cases c : Acy A
    · rw [if_pos c, List.filter_cons_of_pos]
      · rfl
      · show decide (Acy (A ++ [])) = true
        rw [List.append_nil]
        exact decide_eq_true c
    · rw [if_neg c, List.filter_cons_of_neg]
      · rfl
      · show ¬ decide (Acy (A ++ [])) = true
        rw [List.append_nil]
        simpa using c
  | (a, b) :: T, A => by
    unfold ordL
    rw [ordL_filter, ordL_filter]
    show _ = ([-1, 1].flatMap fun s => (waysOf (T.map fun _ => [-1, 1])).map (s :: ·)).filter _
    rw [List.flatMap_cons, List.flatMap_cons, List.flatMap_nil, List.append_nil, List.filter_append, List.filter_map, List.filter_map]
    congr 1
    · congr 1
      refine List.filter_congr fun w _ => ?_
      show decide (Acy (A ++ [(b, a)] ++ arcsOf T w)) = decide (Acy (A ++ ([(b, a)] ++ arcsOf T w)))
      rw [List.append_assoc]
    · congr 1
      refine List.filter_congr fun w _ => ?_
      show decide (Acy (A ++ [(a, b)] ++ arcsOf T w)) = decide (Acy (A ++ ([(a, b)] ++ arcsOf T w)))
      rw [List.append_assoc]
open Classical in
/-- a way with one tie more -/
noncomputable def onW (A : List Arc) (T : List Arc) (a b : Nat) (w : List Int) : List (List Int) :=
  (if Rch (A ++ arcsOf T w) a b then [] else [w ++ [-1]]) ++ (if Rch (A ++ arcsOf T w) b a then [] else [w ++ [1]])
theorem onW_cons {A T : List Arc} {a b c d : Nat} {s : Int} {w : List Int} {e : Arc} (h : A ++ arcsOf ((c, d) :: T) (s :: w) = (A ++ [e]) ++ arcsOf T w) : onW A ((c, d) :: T) a b (s :: w) = (onW (A ++ [e]) T a b w).map (s :: ·) := by
  unfold onW
  rw [h, List.map_append]
  congr 1 <;> split <;> rfl
/-- grown tie by tie, from the left: what stands behind the first ties -/
theorem ordL_snoc (a b : Nat) : ∀ {T A : List Arc}, ordL A (T ++ [(a, b)]) = (ordL A T).flatMap (onW A T a b)
  | [], A => by
    show ordL A ((a, b) :: []) = _
    unfold ordL
    unfold ordL
    by_cases c : Acy A
    · rw [if_pos c]
      show _ = onW A [] a b [] ++ []
      unfold onW
      have e : A ++ arcsOf [] [] = A := List.append_nil _
      rw [e, List.append_nil]
      congr 1
      · by_cases r : Rch A a b
        · rw [if_pos r, if_neg (fun z => (acy_snoc.mp z).2 r)]
          rfl
        · rw [if_neg r, if_pos (acy_snoc.mpr ⟨c, r⟩)]
          rfl
      · by_cases r : Rch A b a
        · rw [if_pos r, if_neg (fun z => (acy_snoc.mp z).2 r)]
          rfl
        · rw [if_neg r, if_pos (acy_snoc.mpr ⟨c, r⟩)]
          rfl
    · rw [if_neg c, if_neg (fun z => c (acy_snoc.mp z).1), if_neg (fun z => c (acy_snoc.mp z).1)]
      rfl
  | (c, d) :: T, A => by
    show ordL A ((c, d) :: (T ++ [(a, b)])) = _
    have u1 : ordL A ((c, d) :: (T ++ [(a, b)])) = (ordL (A ++ [(d, c)]) (T ++ [(a, b)])).map ((-1) :: ·) ++ (ordL (A ++ [(c, d)]) (T ++ [(a, b)])).map (1 :: ·) := rfl
    have u2 : ordL A ((c, d) :: T) = (ordL (A ++ [(d, c)]) T).map ((-1) :: ·) ++ (ordL (A ++ [(c, d)]) T).map (1 :: ·) := rfl
    rw [u1, u2, ordL_snoc a b (T := T), ordL_snoc a b (T := T), List.flatMap_append, List.flatMap_map, List.flatMap_map, List.map_flatMap, List.map_flatMap]
    congr 1
    · congr 1
      funext w
      exact (onW_cons (e := (d, c)) (List.append_assoc A [(d, c)] (arcsOf T w)).symm).symm
    · congr 1
      funext w
      exact (onW_cons (e := (c, d)) (List.append_assoc A [(c, d)] (arcsOf T w)).symm).symm
/-! ### ties that vanish -/
def vanS (A : List Arc) : List Arc := A.filter fun a => decide (a.2 ∈ A.map Prod.fst)
def van : Nat → List Arc → List Arc
  | 0, A => A
  | k + 1, A => van k (vanS A)
theorem van_succ : ∀ (k : Nat) (A : List Arc), van (k + 1) A = vanS (van k A)
  | 0, _ => rfl
  | k + 1, A => van_succ k (vanS A)
theorem van_sub : ∀ {k : Nat} {A : List Arc} {a : Arc}, a ∈ van k A → a ∈ A
  | 0, _, _, h => h
  | k + 1, A, a, h => (List.mem_filter.mp (van_sub (k := k) h)).1
theorem nd_len : ∀ {n : Nat} {l : List Nat}, l.Nodup → (∀ x ∈ l, x < n) → l.length ≤ n
  | 0, l, _, k => by
    cases l with
    | nil => exact Nat.le_refl _
    | cons x l => exact absurd (k x List.mem_cons_self) (Nat.not_lt_zero _)
  | n + 1, l, h, k => by
    by_cases m : n ∈ l
    · have e := List.length_erase_of_mem m
      have := nd_len (n := n) (l := l.erase n) (h.erase n) fun x hx => by
        have hn := (h.mem_erase_iff.mp hx)
        have := k x hn.2
        have := hn.1
        omega
      omega
    · have := nd_len (n := n) h fun x hx => by
        have := k x hx
        have : x ≠ n := fun z => m (z ▸ hx)
        omega
      omega
theorem van_path {A : List Arc} (hA : Acy A) : ∀ {k : Nat} {a : Arc}, a ∈ van k A → ∃ l : List Nat, l.length = k + 1 ∧ l.Nodup ∧ (∀ y ∈ l, ∃ b ∈ A, b.1 = y) ∧ (∀ y ∈ l, Rch A a.1 y)
  | 0, a, h => ⟨[a.1], rfl, by simp, fun y m => ⟨a, h, (List.mem_singleton.mp m).symm⟩, fun y m => by
    rw [List.mem_singleton.mp m]
    exact .refl⟩
  | k + 1, a, h => by
    rw [van_succ] at h
    obtain ⟨h1, h2⟩ := List.mem_filter.mp h
    obtain ⟨b, hb, e⟩ := List.mem_map.mp (of_decide_eq_true h2)
    obtain ⟨l, l1, l2, l3, l4⟩ := van_path hA (k := k) hb
    have ma := van_sub h1
    refine ⟨a.1 :: l, by simp [l1], List.nodup_cons.mpr ⟨fun m => ?_, l2⟩, fun y m => ?_, fun y m => ?_⟩
    · have := l4 _ m
      rw [e] at this
      exact hA a ma this
    · rcases List.mem_cons.mp m with m | m
      · exact ⟨a, ma, m.symm⟩
      · exact l3 y m
    · rcases List.mem_cons.mp m with m | m
      · rw [m]
        exact .refl
      · have := l4 y m
        rw [e] at this
        exact .head ma this
theorem van_round {A : List Arc} : ∀ {k : Nat} {a : Arc}, a ∈ A → Rch A a.2 a.1 → a ∈ van k A
  | 0, _, h, _ => h
  | k + 1, a, h, r => by
    rw [van_succ]
    refine List.mem_filter.mpr ⟨van_round h r, decide_eq_true ?_⟩
    rcases r.cases_head with e | ⟨z, m, r'⟩
    · exact List.mem_map.mpr ⟨a, van_round h r, e.symm⟩
    · exact List.mem_map.mpr ⟨(a.2, z), van_round m (r'.tail h), rfl⟩
theorem van_iff {n : Nat} {A : List Arc} (hA : In n A) : van n A = [] ↔ Acy A := by
  constructor
  · intro h a m r
    have := van_round (k := n) m r
    rw [h] at this
    cases this
  · intro h
    cases e : van n A with
    | nil => rfl
    | cons a t =>
      obtain ⟨l, l1, l2, l3, _⟩ := van_path h (k := n) (a := a) (by rw [e]; exact List.mem_cons_self)
      have := nd_len (n := n) l2 fun y m => by
        obtain ⟨b, hb, rfl⟩ := l3 y m
        exact (hA b hb).1
      omega
/-! ### masks -/
def Msk (n : Nat) (A : List Arc) (ms : List Nat) : Prop := ms.length = n ∧ ∀ x m, ms[x]? = some m → ∀ y, m.testBit y = true ↔ Rch A x y
def startM (n : Nat) : List Nat := (List.range n).map fun p => 2 ^ p
def withArc (ms : List Nat) (s e : Nat) : List Nat := ms.map fun m => if m.testBit s then m ||| ms.getD e 0 else m
theorem rch_nil {x y : Nat} : Rch [] x y ↔ x = y := by
  constructor
  · intro h
    cases h with
    | refl => rfl
    | tail _ m => cases m
  · intro h
    rw [h]
    exact .refl
theorem startM_ok {n : Nat} : Msk n [] (startM n) := ⟨by simp [startM], fun x m h y => by
  unfold startM at h
  rw [List.getElem?_map] at h
  obtain ⟨p, hp, rfl⟩ := Option.map_eq_some_iff.mp h
  obtain ⟨_, e⟩ := List.getElem?_eq_some_iff.mp hp
  rw [List.getElem_range] at e
  subst e
  rw [Nat.testBit_two_pow, rch_nil, decide_eq_true_iff]⟩
theorem withArc_ok {n : Nat} {A : List Arc} {ms : List Nat} {s e : Nat} (h : Msk n A ms) (he : e < n) : Msk n (A ++ [(s, e)]) (withArc ms s e) := ⟨by simp [withArc, h.1], fun x m hx y => by
  unfold withArc at hx
  rw [List.getElem?_map] at hx
  obtain ⟨p, hp, rfl⟩ := Option.map_eq_some_iff.mp hx
  have hl := h.1
  have ge : ms[e]? = some ms[e] := List.getElem?_eq_getElem (by omega)
  have gd : ms.getD e 0 = ms[e] := by rw [List.getD_eq_getElem?_getD, ge]; rfl
  have k1 := h.2 x p hp
  have k2 := h.2 e _ ge
  rw [gd, Rch.snoc]
  split
  · rename_i c
    rw [Nat.testBit_or, Bool.or_eq_true, k1, k2]
    exact ⟨fun z => z.imp id fun q => ⟨(k1 s).mp c, q⟩, fun z => z.imp id fun q => q.2⟩
  · rename_i c
    rw [k1]
    exact ⟨.inl, fun z => z.elim id fun q => absurd ((k1 s).mpr q.1) c⟩⟩
end KG
/-! short ways; masks grown in rounds; counting by two lesser lists (k53) -/
namespace KG
/-! ### short ways -/
inductive PLr (A : List Arc) (x : Nat) : List Nat → Prop
  | one : PLr A x [x]
  | cons {y z : Nat} {l : List Nat} : PLr A x (y :: l) → (y, z) ∈ A → PLr A x (z :: y :: l)
theorem PLr.cut {A : List Arc} {x z : Nat} : ∀ {l : List Nat}, PLr A x l → z ∈ l → l.Nodup → ∃ l', PLr A x (z :: l') ∧ (z :: l').Nodup
  | _, .one, m, d => ⟨[], by rw [List.mem_singleton.mp m]; exact .one, by simp⟩
  | _, .cons (y := y) (z := w) (l := l) h a, m, d => by
    by_cases e : z = w
    · rw [e]
      exact ⟨_, .cons h a, d⟩
    · exact h.cut (List.mem_of_ne_of_mem e m) (List.nodup_cons.mp d).2
theorem Rch.path {A : List Arc} {x y : Nat} (h : Rch A x y) : ∃ l, PLr A x (y :: l) ∧ (y :: l).Nodup := by
  induction h with
  | refl => exact ⟨[], .one, by simp⟩
  | tail _ m ih =>
    rename_i y z _
    obtain ⟨l, p, d⟩ := ih
    by_cases c : z ∈ y :: l
    · exact p.cut c d
    · exact ⟨_, .cons p m, List.nodup_cons.mpr ⟨c, d⟩⟩
def RK (A : List Arc) : Nat → Nat → Nat → Prop
  | 0, x, y => x = y
  | k + 1, x, y => RK A k x y ∨ ∃ z, (x, z) ∈ A ∧ RK A k z y
theorem RK.snoc {A : List Arc} {y z : Nat} (m : (z, y) ∈ A) : ∀ {k x : Nat}, RK A k x z → RK A (k + 1) x y
  | 0, x, h => .inr ⟨y, by rw [show x = z from h]; exact m, rfl⟩
  | k + 1, x, h => by
    rcases h with h | ⟨w, m', h⟩
    · exact .inl (RK.snoc m h)
    · exact .inr ⟨w, m', RK.snoc m h⟩
theorem RK.mono {A : List Arc} {x y : Nat} : ∀ {k j : Nat}, k ≤ j → RK A k x y → RK A j x y
  | k, 0, h, r => by
    have : k = 0 := by omega
    rw [← this]
    exact r
  | k, j + 1, h, r => by
    by_cases e : k = j + 1
    · rw [← e]
      exact r
    · exact .inl (RK.mono (by omega) r)
theorem PLr.rk {A : List Arc} {x : Nat} : ∀ {l : List Nat} {y : Nat}, PLr A x (y :: l) → RK A l.length x y
  | _, _, .one => rfl
  | _, _, .cons h a => RK.snoc a h.rk
theorem PLr.lt {A : List Arc} {n x : Nat} (hA : In n A) (hx : x < n) : ∀ {l : List Nat}, PLr A x l → ∀ y ∈ l, y < n
  | _, .one, y, m => by
    rw [List.mem_singleton.mp m]
    exact hx
  | _, .cons h a, y, m => by
    rcases List.mem_cons.mp m with m | m
    · rw [m]
      exact (hA _ a).2
    · exact h.lt hA hx y m
theorem Rch.rk {A : List Arc} {n x y : Nat} (hA : In n A) (hx : x < n) (h : Rch A x y) : RK A n x y := by
  obtain ⟨l, p, d⟩ := h.path
  have := nd_len d (p.lt hA hx)
  exact RK.mono (by simp at this; omega) p.rk
/-! ### masks in rounds -/
def retS (ms : List Nat) (a : Arc) : List Nat := ms.set a.1 (ms.getD a.1 0 ||| ms.getD a.2 0)
def retR (A : List Arc) (ms : List Nat) : List Nat := A.foldl retS ms
def retN (A : List Arc) : Nat → List Nat → List Nat
  | 0, ms => ms
  | k + 1, ms => retN A k (retR A ms)
theorem retN_succ (A : List Arc) : ∀ (k : Nat) (ms : List Nat), retN A (k + 1) ms = retR A (retN A k ms)
  | 0, _ => rfl
  | k + 1, ms => retN_succ A k (retR A ms)
abbrev Bt (ms : List Nat) (x y : Nat) : Prop := (ms.getD x 0).testBit y = true
theorem retS_len {ms : List Nat} {a : Arc} : (retS ms a).length = ms.length := List.length_set ..
theorem retS_bt {ms : List Nat} {a : Arc} (h : a.1 < ms.length) {x y : Nat} : Bt (retS ms a) x y ↔ Bt ms x y ∨ (x = a.1 ∧ Bt ms a.2 y) := by
  unfold Bt retS
  by_cases e : x = a.1
  · subst e
    rw [List.getD_eq_getElem?_getD, List.getElem?_set_self h]
    show ((ms.getD a.1 0 ||| ms.getD a.2 0).testBit y = true) ↔ _
    rw [Nat.testBit_or, Bool.or_eq_true]
    simp
  · rw [List.getD_eq_getElem?_getD, List.getElem?_set_ne (Ne.symm e), ← List.getD_eq_getElem?_getD]
    simp [e]
theorem fold_len : ∀ {B : List Arc} {ms : List Nat}, (B.foldl retS ms).length = ms.length
  | [], _ => rfl
  | b :: B, ms => by
    rw [List.foldl_cons, fold_len, retS_len]
theorem fold_mono : ∀ {B : List Arc} {ms : List Nat}, (∀ b ∈ B, b.1 < ms.length) → ∀ {x y : Nat}, Bt ms x y → Bt (B.foldl retS ms) x y
  | [], _, _, _, _, h => h
  | b :: B, ms, hl, x, y, h => by
    rw [List.foldl_cons]
    exact fold_mono (fun c m => by rw [retS_len]; exact hl c (List.mem_cons_of_mem _ m)) ((retS_bt (hl b List.mem_cons_self)).mpr (.inl h))
theorem fold_arc : ∀ {B : List Arc} {ms : List Nat}, (∀ b ∈ B, b.1 < ms.length) → ∀ {x z y : Nat}, (x, z) ∈ B → Bt ms z y → Bt (B.foldl retS ms) x y
  | b :: B, ms, hl, x, z, y, m, h => by
    rw [List.foldl_cons]
    have hl' : ∀ c ∈ B, c.1 < (retS ms b).length := fun c m => by rw [retS_len]; exact hl c (List.mem_cons_of_mem _ m)
    have hb := hl b List.mem_cons_self
    rcases List.mem_cons.mp m with e | m
    · subst e
      exact fold_mono hl' ((retS_bt hb).mpr (.inr ⟨rfl, h⟩))
    · exact fold_arc hl' m ((retS_bt hb).mpr (.inl h))
theorem fold_sound {A : List Arc} : ∀ {B : List Arc} {ms : List Nat}, (∀ b ∈ B, b ∈ A ∧ b.1 < ms.length) → (∀ x y, Bt ms x y → Rch A x y) → ∀ x y, Bt (B.foldl retS ms) x y → Rch A x y
  | [], _, _, h, x, y, k => h x y k
  | b :: B, ms, hl, h, x, y, k => by
    rw [List.foldl_cons] at k
    have hb := hl b List.mem_cons_self
    refine fold_sound (A := A) (B := B) (fun c m => by rw [retS_len]; exact hl c (List.mem_cons_of_mem _ m)) (fun p q r => ?_) x y k
    rcases (retS_bt hb.2).mp r with r | ⟨e, r⟩
    · exact h p q r
    · rw [e]
      exact .head hb.1 (h _ _ r)
theorem retN_ok {n : Nat} {A : List Arc} {ms : List Nat} (hA : In n A) (hl : n ≤ ms.length) (h0 : ∀ x y, x < n → (Bt ms x y ↔ x = y)) (hz : ∀ x y, Bt ms x y → Rch A x y) {x y : Nat} (hx : x < n) : Bt (retN A n ms) x y ↔ Rch A x y := by
  have len : ∀ k, (retN A k ms).length = ms.length := fun k => by
    induction k with
    | zero => rfl
    | succ k ih => rw [retN_succ, retR, fold_len, ih]
  have lt : ∀ k, ∀ b ∈ A, b.1 < (retN A k ms).length := fun k b m => by
    rw [len]
    exact Nat.lt_of_lt_of_le (hA b m).1 hl
  constructor
  · have : ∀ k, ∀ x y, Bt (retN A k ms) x y → Rch A x y := fun k => by
      induction k with
      | zero => exact hz
      | succ k ih =>
        rw [retN_succ]
        exact fold_sound (fun b m => ⟨m, lt k b m⟩) ih
    exact this n x y
  · intro r
    have : ∀ k x, x < n → RK A k x y → Bt (retN A k ms) x y := fun k => by
      induction k with
      | zero => exact fun x hx e => (h0 x y hx).mpr e
      | succ k ih =>
        intro x hx e
        rw [retN_succ]
        rcases e with e | ⟨z, m, e⟩
        · exact fold_mono (lt k) (ih x hx e)
        · exact fold_arc (lt k) m (ih z (hA _ m).2 e)
    exact this n x hx (r.rk hA hx)
/-! ### all ties lead back -/
def Back (A : List Arc) : Prop := ∀ a ∈ A, Rch A a.2 a.1
/-! ### counting -/
theorem cnt_snoc {n : Nat} {f : Nat → Nat} {u v : Nat} (g : Glue n f u v) {T : List Arc} (hT : In n T) : cnt [] (T ++ [(u, v)]) = cnt [] T + cnt [] (mapA f T) := by
  have p : (T ++ [(u, v)]).Perm ((u, v) :: T) := List.perm_append_comm
  rw [cnt_perm p, cnt_cons]
  exact cnt_glue g (A := []) hT fun a m => by cases m
theorem cnt_mid {n : Nat} {f : Nat → Nat} {u v : Nat} (g : Glue n f u v) {T T' : List Arc} (hT : In n (T ++ T')) : cnt [] (T ++ (u, v) :: T') = cnt [] (T ++ T') + cnt [] (mapA f (T ++ T')) := by
  rw [cnt_perm List.perm_middle, cnt_cons]
  exact cnt_glue g (A := []) hT fun a m => by cases m
/-- the pairs that stand: told once, the lesser place first -/
def Plain (n : Nat) (D : List Arc) : Prop := D.Nodup ∧ ∀ p ∈ D, p.1 < p.2 ∧ p.2 < n
def kg (kept gone x : Nat) : Nat := if x = gone then kept else x
theorem glue_kg {n k g : Nat} (h : k < g) (hg : g < n) : Glue n (kg k g) k g := ⟨by omega, hg, by omega, fun x y hx hy => by
  unfold kg
  by_cases a : x = g <;> by_cases b : y = g <;> simp [a, b] <;> omega⟩
end KG
/-! what is joined; marks; bridges by flows round (k53) -/
namespace KG
def sym (T : List Arc) : List Arc := T ++ T.map fun t => (t.2, t.1)
theorem mem_sym {T : List Arc} {a b : Nat} : (a, b) ∈ sym T ↔ (a, b) ∈ T ∨ (b, a) ∈ T := by
  unfold sym
  rw [List.mem_append, List.mem_map]
  constructor
  · rintro (h | ⟨t, m, e⟩)
    · exact .inl h
    · cases e
      exact .inr m
  · rintro (h | h)
    · exact .inl h
    · exact .inr ⟨_, h, rfl⟩
def Con (T : List Arc) (x y : Nat) : Prop := Rch (sym T) x y
namespace Con
variable {T : List Arc} {x y z : Nat}
theorem refl : Con T x x := Rch.refl
theorem trans (h : Con T x y) (k : Con T y z) : Con T x z := Rch.trans h k
theorem tie (m : (x, y) ∈ T) : Con T x y := Rch.one (mem_sym.mpr (.inl m))
theorem symm (h : Con T x y) : Con T y x := by
  unfold Con at *
  induction h with
  | refl => exact .refl
  | tail _ m ih => exact .head (mem_sym.mpr ((mem_sym.mp m).symm)) ih
theorem mono {T' : List Arc} (hs : ∀ t ∈ T, t ∈ T') (h : Con T x y) : Con T' x y := Rch.mono (fun a m => by
  obtain ⟨a, b⟩ := a
  rcases mem_sym.mp m with m | m
  · exact mem_sym.mpr (.inl (hs _ m))
  · exact mem_sym.mpr (.inr (hs _ m))) h
theorem snoc {u v : Nat} : Con (T ++ [(u, v)]) x y ↔ Con T x y ∨ (Con T x u ∧ Con T v y) ∨ (Con T x v ∧ Con T u y) := by
  constructor
  · intro h
    unfold Con at h
    induction h with
    | refl => exact .inl .refl
    | tail _ m ih =>
      rename_i p q _
      have st : ((p, q) ∈ sym T) ∨ (p = u ∧ q = v) ∨ (p = v ∧ q = u) := by
        rcases mem_sym.mp m with m | m
        · rcases List.mem_append.mp m with m | m
          · exact .inl (mem_sym.mpr (.inl m))
          · have e := List.mem_singleton.mp m
            cases e
            exact .inr (.inl ⟨rfl, rfl⟩)
        · rcases List.mem_append.mp m with m | m
          · exact .inl (mem_sym.mpr (.inr m))
          · have e := List.mem_singleton.mp m
            cases e
            exact .inr (.inr ⟨rfl, rfl⟩)
      rcases st with st | ⟨rfl, rfl⟩ | ⟨rfl, rfl⟩
      · rcases ih with i | ⟨i, j⟩ | ⟨i, j⟩
        · exact .inl (Rch.tail i st)
        · exact .inr (.inl ⟨i, Rch.tail j st⟩)
        · exact .inr (.inr ⟨i, Rch.tail j st⟩)
      · rcases ih with i | ⟨i, j⟩ | ⟨i, j⟩
        · exact .inr (.inl ⟨i, .refl⟩)
        · exact .inr (.inl ⟨i, .refl⟩)
        · exact .inl i
      · rcases ih with i | ⟨i, j⟩ | ⟨i, j⟩
        · exact .inr (.inr ⟨i, .refl⟩)
        · exact .inl i
        · exact .inr (.inr ⟨i, .refl⟩)
  · have sub : ∀ t ∈ T, t ∈ T ++ [(u, v)] := fun t m => List.mem_append_left _ m
    have last : Con (T ++ [(u, v)]) u v := tie (List.mem_append_right _ (List.mem_singleton.mpr rfl))
    rintro (h | ⟨h, k⟩ | ⟨h, k⟩)
    · exact h.mono sub
    · exact ((h.mono sub).trans last).trans (k.mono sub)
    · exact ((h.mono sub).trans last.symm).trans (k.mono sub)
theorem lt {n : Nat} (hT : In n T) (hx : x < n) (h : Con T x y) : y < n := Rch.lt (A := sym T) (fun a m => by
  obtain ⟨a, b⟩ := a
  rcases mem_sym.mp m with m | m
  · exact hT _ m
  · exact ⟨(hT _ m).2, (hT _ m).1⟩) hx h
/-- what is alike at the ends of each tie is alike where joined -/
theorem alike {α : Type} {g : Nat → α} (hg : ∀ t ∈ T, g t.1 = g t.2) (h : Con T x y) : g x = g y := by
  unfold Con at h
  induction h with
  | refl => rfl
  | tail _ m ih =>
    rw [ih]
    rcases mem_sym.mp m with m | m
    · exact hg _ m
    · exact (hg _ m).symm
end Con
/-! ### marks -/
def MK (n : Nat) (T : List Arc) (ms : List Nat) : Prop := ms.length = n ∧ ∀ x y a b, ms[x]? = some a → ms[y]? = some b → (a = b ↔ Con T x y)
theorem con_nil {x y : Nat} : Con [] x y ↔ x = y := rch_nil
theorem range_ok {n : Nat} : MK n [] (List.range n) := ⟨List.length_range, fun x y a b h k => by
  obtain ⟨_, rfl⟩ := List.getElem?_eq_some_iff.mp h
  obtain ⟨_, rfl⟩ := List.getElem?_eq_some_iff.mp k
  rw [List.getElem_range, List.getElem_range, con_nil]⟩
def renM (ms : List Nat) (p q : Nat) : List Nat := ms.map fun m => if m = p then q else m
theorem renM_ok {n : Nat} {T : List Arc} {ms : List Nat} {u v p q a b : Nat} (h : MK n T ms) (hu : ms[u]? = some a) (hv : ms[v]? = some b) (hpq : (p = a ∧ q = b) ∨ (p = b ∧ q = a)) : MK n (T ++ [(u, v)]) (renM ms p q) := ⟨by simp [renM, h.1], fun x y c d hx hy => by
  unfold renM at hx hy
  rw [List.getElem?_map] at hx hy
  obtain ⟨c, kx, rfl⟩ := Option.map_eq_some_iff.mp hx
  obtain ⟨d, ky, rfl⟩ := Option.map_eq_some_iff.mp hy
  rw [Con.snoc, ← h.2 x y c d kx ky, ← h.2 x u c a kx hu, ← h.2 v y b d hv ky, ← h.2 x v c b kx hv, ← h.2 u y a d hu ky]
  rcases hpq with ⟨rfl, rfl⟩ | ⟨rfl, rfl⟩ <;> (split <;> split <;> omega)⟩
theorem MK.one {n : Nat} {T : List Arc} {ms : List Nat} {u v a b : Nat} (h : MK n T ms) (hu : ms[u]? = some a) (hv : ms[v]? = some b) (e : a = b) : MK n (T ++ [(u, v)]) ms := ⟨h.1, fun x y c d hx hy => by
  have cuv := (h.2 u v a b hu hv).mp e
  rw [h.2 x y c d hx hy, Con.snoc]
  exact ⟨.inl, fun z => z.elim id fun z => z.elim (fun z => (z.1.trans cuv).trans z.2) fun z => (z.1.trans cuv.symm).trans z.2⟩⟩
end KG
/-! ways home, flows round, bridges (k53) -/
namespace KG
def ties (T : List Arc) (U : List Nat) : List Arc := U.filterMap fun j => T[j]?
theorem mem_ties {T : List Arc} {U : List Nat} {t : Arc} : t ∈ ties T U ↔ ∃ j ∈ U, T[j]? = some t := List.mem_filterMap
theorem mem_rest {T : List Arc} {i j : Nat} {t : Arc} (h : T[j]? = some t) (n : j ≠ i) : t ∈ T.eraseIdx i := List.mem_eraseIdx_iff_getElem?.mpr ⟨j, n, h⟩
theorem nd_sub : ∀ {l l' : List Nat}, l.Nodup → (∀ x ∈ l, x ∈ l') → l.length ≤ l'.length
  | [], _, _, _ => Nat.zero_le _
  | x :: l, l', h, s => by
    have hx := s x List.mem_cons_self
    have e := List.length_erase_of_mem hx
    obtain ⟨h1, h2⟩ := List.nodup_cons.mp h
    have := nd_sub (l := l) (l' := l'.erase x) h2 fun y hy => (List.mem_erase_of_ne (fun z => h1 (by rw [← z]; exact hy))).mpr (s y (List.mem_cons_of_mem _ hy))
    have : 0 < l'.length := List.length_pos_of_mem hx
    simp
    omega
/-- a forest: no tie of it is led round by the others -/
def Fst (T : List Arc) (tree : List Nat) : Prop := ∀ j ∈ tree, ∀ a b, T[j]? = some (a, b) → ¬ Con (ties T (tree.filter (· ≠ j))) a b
abbrev At (ws : List (Option (List Int))) (v : Nat) (w : List Int) : Prop := ws[v]? = some (some w)
/-- the ways home told so far, by the ties U -/
structure WI (n : Nat) (T : List Arc) (tree U : List Nat) (ws : List (Option (List Int))) : Prop where
  len : ws.length = n
  nd : U.Nodup
  zero : ∃ w, At ws 0 w
  wl : ∀ v w, At ws v w → w.length = T.length
  con : ∀ v w, At ws v w → Con (ties T U) 0 v
  sub : ∀ j ∈ U, j ∈ tree
  fu : ∀ j ∈ U, ∀ a b, T[j]? = some (a, b) → (∃ w, At ws a w) ∧ ∃ w, At ws b w
  g0 : ∀ i, i ∉ U → ∀ v w, At ws v w → w.getD i 0 = 0
  eqs : ∀ j ∈ U, ∀ a b wa wb, T[j]? = some (a, b) → At ws a wa → At ws b wb → ∀ i, i ≠ j → wa.getD i 0 = wb.getD i 0
  dif : ∀ j ∈ U, ∀ a b wa wb, T[j]? = some (a, b) → At ws a wa → At ws b wb → wa.getD j 0 ≠ wb.getD j 0
  two : ∀ i, ∃ (c : Int) (e : Nat), ∀ v w, At ws v w → (w.getD i 0 = 0 ∧ Con (T.eraseIdx i) 0 v) ∨ (w.getD i 0 = c ∧ c ≠ 0 ∧ Con (T.eraseIdx i) e v)
section
variable {n : Nat} {T : List Arc} {tree U : List Nat} {ws : List (Option (List Int))}
theorem set_getD_ne {w : List Int} {i j : Nat} {s : Int} (h : i ≠ j) : (w.set j s).getD i 0 = w.getD i 0 := by
  rw [List.getD_eq_getElem?_getD, List.getElem?_set_ne (Ne.symm h), ← List.getD_eq_getElem?_getD]
theorem set_getD_self {w : List Int} {j : Nat} {s : Int} (h : j < w.length) : (w.set j s).getD j 0 = s := by
  rw [List.getD_eq_getElem?_getD, List.getElem?_set_self h]
  rfl
theorem WI.put (W : WI n T tree U ws) {j p q : Nat} {w : List Int} {s : Int} (hj : j ∈ tree) (ht : T[j]? = some (p, q) ∨ T[j]? = some (q, p)) (hp : ws[p]? = some none) (hq : At ws q w) (hs : s ≠ 0) :
    WI n T tree (j :: U) (ws.set p (some (w.set j s))) := by
  have hpl : p < ws.length := (List.getElem?_eq_some_iff.mp hp).1
  have hjl : j < T.length := by
    rcases ht with h | h <;> exact (List.getElem?_eq_some_iff.mp h).1
  have hpq : p ≠ q := fun z => by
    rw [z] at hp
    have : At ws q w := hq
    unfold At at this
    rw [hp] at this
    cases this
  have old : ∀ v w', At (ws.set p (some (w.set j s))) v w' → v ≠ p → At ws v w' := fun v w' h ne => by
    unfold At at h
    rw [List.getElem?_set_ne (Ne.symm ne)] at h
    exact h
  have new : ∀ w', At (ws.set p (some (w.set j s))) p w' → w' = w.set j s := fun w' h => by
    unfold At at h
    rw [List.getElem?_set_self hpl] at h
    exact (Option.some.inj (Option.some.inj h)).symm
  have keep : ∀ v w', At ws v w' → At (ws.set p (some (w.set j s))) v w' := fun v w' h => by
    unfold At
    rw [List.getElem?_set_ne (fun z => by
      unfold At at h
      rw [← z, hp] at h
      cases h)]
    exact h
  have self : At (ws.set p (some (w.set j s))) p (w.set j s) := by
    unfold At
    rw [List.getElem?_set_self hpl]
  have hjU : j ∉ U := fun m => by
    rcases ht with h | h
    · obtain ⟨⟨w', h1⟩, _⟩ := W.fu j m p q h
      unfold At at h1
      rw [hp] at h1
      cases h1
    · obtain ⟨_, ⟨w', h1⟩⟩ := W.fu j m q p h
      unfold At at h1
      rw [hp] at h1
      cases h1
  have fil : ∀ v w', At ws v w' → v ≠ p := fun v w' h z => by
    unfold At at h
    rw [z, hp] at h
    cases h
  have sub' : ∀ t ∈ ties T U, t ∈ ties T (j :: U) := fun t m => by
    obtain ⟨k, hk, e⟩ := mem_ties.mp m
    exact mem_ties.mpr ⟨k, List.mem_cons_of_mem _ hk, e⟩
  have lk : ∀ {S : List Arc}, ((p, q) ∈ S ∨ (q, p) ∈ S) → Con S q p := fun h => h.elim (fun h => (Con.tie h).symm) Con.tie
  have wlw := W.wl q w hq
  refine ⟨by rw [List.length_set, W.len], List.nodup_cons.mpr ⟨hjU, W.nd⟩, ?_, ?_, ?_, ?_, ?_, ?_, ?_, ?_, ?_⟩
  · obtain ⟨w0, h0⟩ := W.zero
    exact ⟨w0, keep _ _ h0⟩
  · intro v w' h
    by_cases e : v = p
    · subst e
      rw [new w' h, List.length_set, wlw]
    · exact W.wl v w' (old v w' h e)
  · intro v w' h
    by_cases e : v = p
    · subst e
      refine ((W.con q w hq).mono sub').trans (lk ?_)
      exact ht.imp (fun h => mem_ties.mpr ⟨j, List.mem_cons_self, h⟩) (fun h => mem_ties.mpr ⟨j, List.mem_cons_self, h⟩)
    · exact (W.con v w' (old v w' h e)).mono sub'
  · intro k m
    rcases List.mem_cons.mp m with m | m
    · rw [m]
      exact hj
    · exact W.sub k m
  · intro k m a b e
    rcases List.mem_cons.mp m with m | m
    · subst m
      rcases ht with h | h
      · rw [h] at e
        cases e
        exact ⟨⟨_, self⟩, ⟨_, keep _ _ hq⟩⟩
      · rw [h] at e
        cases e
        exact ⟨⟨_, keep _ _ hq⟩, ⟨_, self⟩⟩
    · obtain ⟨⟨w1, h1⟩, ⟨w2, h2⟩⟩ := W.fu k m a b e
      exact ⟨⟨w1, keep _ _ h1⟩, ⟨w2, keep _ _ h2⟩⟩
  · intro i hi v w' h
    have hij : i ≠ j := fun z => hi (z ▸ List.mem_cons_self)
    have hiU : i ∉ U := fun z => hi (List.mem_cons_of_mem _ z)
    by_cases e : v = p
    · subst e
      rw [new w' h, set_getD_ne hij]
      exact W.g0 i hiU q w hq
    · exact W.g0 i hiU v w' (old v w' h e)
  · intro k m a b wa wb e h1 h2 i hi
    rcases List.mem_cons.mp m with m | m
    · subst m
      rcases ht with h | h
      · rw [h] at e
        cases e
        have e2 : wb = w := by
          have := old _ _ h2 (Ne.symm hpq)
          exact Option.some.inj (Option.some.inj (this.symm.trans hq))
        rw [new wa h1, e2, set_getD_ne hi]
      · rw [h] at e
        cases e
        have e2 : wa = w := by
          have := old _ _ h1 (Ne.symm hpq)
          exact Option.some.inj (Option.some.inj (this.symm.trans hq))
        rw [new wb h2, e2, set_getD_ne hi]
    · obtain ⟨⟨w1, k1⟩, ⟨w2, k2⟩⟩ := W.fu k m a b e
      exact W.eqs k m a b wa wb e (old _ _ h1 (fil _ _ k1)) (old _ _ h2 (fil _ _ k2)) i hi
  · intro k m a b wa wb e h1 h2
    rcases List.mem_cons.mp m with m | m
    · subst m
      have z := W.g0 k hjU q w hq
      rcases ht with h | h
      · rw [h] at e
        cases e
        have e2 : wb = w := by
          have := old _ _ h2 (Ne.symm hpq)
          exact Option.some.inj (Option.some.inj (this.symm.trans hq))
        rw [new wa h1, e2, set_getD_self (by omega), z]
        exact hs
      · rw [h] at e
        cases e
        have e2 : wa = w := by
          have := old _ _ h1 (Ne.symm hpq)
          exact Option.some.inj (Option.some.inj (this.symm.trans hq))
        rw [new wb h2, e2, set_getD_self (by omega), z]
        exact Ne.symm hs
    · obtain ⟨⟨w1, k1⟩, ⟨w2, k2⟩⟩ := W.fu k m a b e
      exact W.dif k m a b wa wb e (old _ _ h1 (fil _ _ k1)) (old _ _ h2 (fil _ _ k2))
  · intro i
    by_cases hij : i = j
    · subst hij
      refine ⟨s, p, fun v w' h => ?_⟩
      by_cases e : v = p
      · subst e
        rw [new w' h, set_getD_self (by omega)]
        exact .inr ⟨rfl, hs, .refl⟩
      · have h' := old v w' h e
        obtain ⟨c, e', k⟩ := W.two i
        rcases k v w' h' with k | ⟨k1, k2, _⟩
        · exact .inl k
        · exact absurd (k1.symm.trans (W.g0 i hjU v w' h')) k2
    · obtain ⟨c, e', k⟩ := W.two i
      refine ⟨c, e', fun v w' h => ?_⟩
      by_cases e : v = p
      · subst e
        have l : Con (T.eraseIdx i) q v := lk (ht.imp (fun h => mem_rest h (Ne.symm hij)) (fun h => mem_rest h (Ne.symm hij)))
        rw [new w' h, set_getD_ne hij]
        exact (k q w hq).imp (fun z => ⟨z.1, z.2.trans l⟩) (fun z => ⟨z.1, z.2.1, z.2.2.trans l⟩)
      · exact k v w' (old v w' h e)
end
end KG
/-! the ways home are all told; which ties are bridges (k53) -/
namespace KG
section
variable {n : Nat} {T : List Arc} {tree U : List Nat} {ws : List (Option (List Int))}
def wIn (ws : List (Option (List Int))) (i a b : Nat) : Option (Option (List Int)) → Option (Option (List Int)) → List (Option (List Int))
  | some none, some (some w) => ws.set a (some (w.set i 1))
  | some (some w), some none => ws.set b (some (w.set i (-1)))
  | _, _ => ws
def wStep (T : List Arc) (ws : List (Option (List Int))) (i : Nat) : List (Option (List Int)) :=
  match T[i]? with
  | none => ws
  | some t => wIn ws i t.1 t.2 ws[t.1]? ws[t.2]?
/-- just one of the tie's places has its way -/
def Half (T : List Arc) (ws : List (Option (List Int))) (j : Nat) : Prop := ∃ p q, (T[j]? = some (p, q) ∨ T[j]? = some (q, p)) ∧ ws[p]? = some none ∧ ∃ w, At ws q w
theorem WI.step (hT : In n T) (W : WI n T tree U ws) {j : Nat} (hj : j ∈ tree) : (¬ Half T ws j ∧ wStep T ws j = ws) ∨ (Half T ws j ∧ WI n T tree (j :: U) (wStep T ws j)) := by
  unfold wStep
  cases e : T[j]? with
  | none =>
    refine .inl ⟨fun ⟨p, q, h, _⟩ => ?_, rfl⟩
    rw [e] at h
    rcases h with h | h <;> cases h
  | some t =>
    obtain ⟨a, b⟩ := t
    show (¬ Half T ws j ∧ wIn ws j a b ws[a]? ws[b]? = ws) ∨ (Half T ws j ∧ WI n T tree (j :: U) (wIn ws j a b ws[a]? ws[b]?))
    have hab := hT (a, b) (List.mem_of_getElem? e)
    have la : a < ws.length := by rw [W.len]; exact hab.1
    have lb : b < ws.length := by rw [W.len]; exact hab.2
    have ea : ws[a]? = some ws[a] := List.getElem?_eq_getElem la
    have eb : ws[b]? = some ws[b] := List.getElem?_eq_getElem lb
    cases qa : ws[a] with
    | none =>
      rw [qa] at ea
      cases qb : ws[b] with
      | none =>
        rw [qb] at eb
        rw [ea, eb]
        refine .inl ⟨fun ⟨p, q, h, h1, w, h2⟩ => ?_, rfl⟩
        rw [e] at h
        rcases h with h | h <;> cases h
        · unfold At at h2
          rw [eb] at h2
          cases h2
        · unfold At at h2
          rw [ea] at h2
          cases h2
      | some w =>
        rw [qb] at eb
        rw [ea, eb]
        exact .inr ⟨⟨a, b, .inl e, ea, w, eb⟩, W.put hj (.inl e) ea eb (by decide)⟩
    | some w =>
      rw [qa] at ea
      cases qb : ws[b] with
      | none =>
        rw [qb] at eb
        rw [ea, eb]
        exact .inr ⟨⟨b, a, .inr e, eb, w, ea⟩, W.put hj (.inr e) eb ea (by decide)⟩
      | some w' =>
        rw [qb] at eb
        rw [ea, eb]
        refine .inl ⟨fun ⟨p, q, h, h1, w, h2⟩ => ?_, rfl⟩
        rw [e] at h
        rcases h with h | h <;> cases h
        · rw [ea] at h1
          cases h1
        · rw [eb] at h1
          cases h1
def wPass (T : List Arc) (L : List Nat) (ws : List (Option (List Int))) : List (Option (List Int)) := L.foldl (wStep T) ws
theorem WI.pass (hT : In n T) : ∀ {L : List Nat} {U : List Nat} {ws : List (Option (List Int))}, (∀ j ∈ L, j ∈ tree) → WI n T tree U ws → ∃ U', WI n T tree U' (wPass T L ws) ∧ U.length ≤ U'.length ∧ ((∃ j ∈ L, Half T ws j) → U.length < U'.length)
  | [], U, ws, _, W => ⟨U, W, Nat.le_refl _, fun ⟨_, m, _⟩ => by cases m⟩
  | i :: L, U, ws, hL, W => by
    have hi := hL i List.mem_cons_self
    have hL' : ∀ j ∈ L, j ∈ tree := fun j m => hL j (List.mem_cons_of_mem _ m)
    show ∃ U', WI n T tree U' (wPass T L (wStep T ws i)) ∧ _
    rcases W.step hT hi with ⟨h1, h2⟩ | ⟨_, h2⟩
    · rw [h2]
      obtain ⟨U', k1, k2, k3⟩ := WI.pass hT hL' W
      refine ⟨U', k1, k2, fun ⟨j, m, h⟩ => ?_⟩
      rcases List.mem_cons.mp m with m | m
      · rw [m] at h
        exact absurd h h1
      · exact k3 ⟨j, m, h⟩
    · obtain ⟨U', k1, k2, _⟩ := WI.pass hT hL' h2
      rw [List.length_cons] at k2
      exact ⟨U', k1, by omega, fun _ => by omega⟩
def AllW (n : Nat) (ws : List (Option (List Int))) : Prop := ∀ v, v < n → ∃ w, At ws v w
theorem WI.half (hT : In n T) (W : WI n T tree U ws) (h0 : 0 < n) (hc : ∀ v, v < n → Con (ties T tree) 0 v) (h : ¬ ∃ j ∈ tree, Half T ws j) : AllW n ws := by
  intro v hv
  have c := hc v hv
  have key : ∀ y, Con (ties T tree) 0 y → ∃ w, At ws y w := by
    intro y r
    unfold Con at r
    induction r with
    | refl => exact W.zero
    | tail _ m ih =>
      rename_i p q _
      obtain ⟨w, hw⟩ := ih
      have ends : ∃ j ∈ tree, T[j]? = some (q, p) ∨ T[j]? = some (p, q) := by
        rcases mem_sym.mp m with m | m
        · obtain ⟨j, hj, e⟩ := mem_ties.mp m
          exact ⟨j, hj, .inr e⟩
        · obtain ⟨j, hj, e⟩ := mem_ties.mp m
          exact ⟨j, hj, .inl e⟩
      obtain ⟨j, hj, e⟩ := ends
      have hq : q < ws.length := by
        rw [W.len]
        rcases e with e | e
        · exact (hT _ (List.mem_of_getElem? e)).1
        · exact (hT _ (List.mem_of_getElem? e)).2
      have eq : ws[q]? = some ws[q] := List.getElem?_eq_getElem hq
      cases qq : ws[q] with
      | none =>
        rw [qq] at eq
        exact absurd ⟨j, hj, q, p, e, eq, w, hw⟩ h
      | some w' =>
        rw [qq] at eq
        exact ⟨w', eq⟩
  exact key v c
theorem AllW.no_half (h : AllW n ws) (W : WI n T tree U ws) : ∀ j, ¬ Half T ws j := fun j ⟨p, q, _, h1, _⟩ => by
  have : p < n := by
    rw [← W.len]
    exact (List.getElem?_eq_some_iff.mp h1).1
  obtain ⟨w, hw⟩ := h p this
  unfold At at hw
  rw [h1] at hw
  cases hw
/-- all is told behind as many passes as there are ties of the tree -/
def wPasses (T : List Arc) (L : List Nat) : Nat → List (Option (List Int)) → List (Option (List Int))
  | 0, ws => ws
  | k + 1, ws => wPasses T L k (wPass T L ws)
theorem WI.passes (hT : In n T) (h0 : 0 < n) (hc : ∀ v, v < n → Con (ties T tree) 0 v) : ∀ {k : Nat} {U : List Nat} {ws : List (Option (List Int))}, WI n T tree U ws → (AllW n ws ∨ tree.length ≤ U.length + k) → ∃ U', WI n T tree U' (wPasses T tree k ws) ∧ (AllW n (wPasses T tree k ws) ∨ tree.length ≤ U'.length)
  | 0, U, ws, W, h => ⟨U, W, h⟩
  | k + 1, U, ws, W, h => by
    obtain ⟨U', k1, k2, k3⟩ := WI.pass hT (L := tree) (fun j m => m) W
    refine WI.passes hT h0 hc (k := k) k1 ?_
    rcases Classical.em (∃ j ∈ tree, Half T ws j) with c | c
    · have := k3 c
      rcases h with h | h
      · obtain ⟨j, _, hj⟩ := c
        exact absurd hj (h.no_half W j)
      · exact .inr (by omega)
    · have aw := W.half hT h0 hc c
      have st : ∀ (L : List Nat), (∀ j ∈ L, j ∈ tree) → wPass T L ws = ws := fun L => by
        induction L with
        | nil => exact fun _ => rfl
        | cons i L ih =>
          intro hL
          show wPass T L (wStep T ws i) = ws
          rcases W.step hT (hL i List.mem_cons_self) with ⟨_, e⟩ | ⟨hh, _⟩
          · rw [e]
            exact ih fun j m => hL j (List.mem_cons_of_mem _ m)
          · exact absurd hh (aw.no_half W i)
      rw [st tree fun j m => m]
      exact .inl aw
theorem WI.all (hT : In n T) (h0 : 0 < n) (hc : ∀ v, v < n → Con (ties T tree) 0 v) (W : WI n T tree U ws) (h : AllW n ws ∨ tree.length ≤ U.length) : AllW n ws := by
  rcases h with h | h
  · exact h
  · have full : ∀ j ∈ tree, j ∈ U := fun j hj => Classical.byContradiction fun n => by
      have := nd_sub (l := j :: U) (l' := tree) (List.nodup_cons.mpr ⟨n, W.nd⟩) fun x m => by
        rcases List.mem_cons.mp m with m | m
        · rw [m]
          exact hj
        · exact W.sub x m
      simp at this
      omega
    refine W.half hT h0 hc fun ⟨j, hj, p, q, e, h1, _⟩ => ?_
    rcases e with e | e
    · obtain ⟨⟨w, k⟩, _⟩ := W.fu j (full j hj) p q e
      unfold At at k
      rw [h1] at k
      cases k
    · obtain ⟨_, ⟨w, k⟩⟩ := W.fu j (full j hj) q p e
      unfold At at k
      rw [h1] at k
      cases k
end
end KG
/-! bridges by flows; the tree and the free ties (k53) -/
namespace KG
section
variable {n : Nat} {T : List Arc} {tree U F : List Nat} {ws : List (Option (List Int))}
def ws0 (n m : Nat) : List (Option (List Int)) := (List.replicate n none).set 0 (some (List.replicate m 0))
theorem ws0_at {n m v : Nat} {w : List Int} (h : At (ws0 n m) v w) : v = 0 ∧ w = List.replicate m 0 := by
  unfold At ws0 at h
  by_cases e : v = 0
  · subst e
    refine ⟨rfl, ?_⟩
    by_cases hn : 0 < n
    · rw [List.getElem?_set_self (by simpa using hn)] at h
      exact (Option.some.inj (Option.some.inj h)).symm
    · have : n = 0 := by omega
      subst this
      simp at h
  · rw [List.getElem?_set_ne (Ne.symm e), List.getElem?_replicate] at h
    split at h <;> cases h
theorem WI.start (h0 : 0 < n) : WI n T tree [] (ws0 n T.length) := by
  have z : At (ws0 n T.length) 0 (List.replicate T.length 0) := by
    unfold At ws0
    rw [List.getElem?_set_self (by simpa using h0)]
  refine ⟨by simp [ws0], List.nodup_nil, ⟨_, z⟩, ?_, ?_, ?_, ?_, ?_, ?_, ?_, ?_⟩
  · intro v w h
    rw [(ws0_at h).2, List.length_replicate]
  · intro v w h
    rw [(ws0_at h).1]
    exact .refl
  · intro j m
    cases m
  · intro j m
    cases m
  · intro i _ v w h
    rw [(ws0_at h).2, List.getD_eq_getElem?_getD, List.getElem?_replicate]
    split <;> rfl
  · intro j m
    cases m
  · intro j m
    cases m
  · intro i
    refine ⟨1, 0, fun v w h => .inl ⟨?_, ?_⟩⟩
    · rw [(ws0_at h).2, List.getD_eq_getElem?_getD, List.getElem?_replicate]
      split <;> rfl
    · rw [(ws0_at h).1]
      exact .refl
def subL (x y : List Int) : List Int := List.zipWith (fun a b => a - b) x y
theorem subL_get {x y : List Int} (h : x.length = y.length) {i : Nat} : (subL x y).getD i 0 = x.getD i 0 - y.getD i 0 := by
  unfold subL
  rw [List.getD_eq_getElem?_getD, List.getD_eq_getElem?_getD, List.getD_eq_getElem?_getD, List.getElem?_zipWith]
  by_cases hi : i < x.length
  · rw [List.getElem?_eq_getElem hi, List.getElem?_eq_getElem (by omega : i < y.length)]
    rfl
  · rw [List.getElem?_eq_none (by omega), List.getElem?_eq_none (by omega : y.length ≤ i)]
    rfl
/-- the flow round by the free tie f, the ways of its places being wa and wb -/
def flowL (f : Nat) (wa wb : List Int) : List Int := (subL wb wa).set f 1
theorem bridge (hT : In n T) (h0 : 0 < n) (W : WI n T tree U ws) (aw : AllW n ws) (fo : Fst T tree) (hF : ∀ i, i < T.length → i ∈ tree ∨ i ∈ F) (hF2 : ∀ f ∈ F, f ∉ tree ∧ f < T.length) {i : Nat} (hi : i < T.length) :
    (∀ f ∈ F, ∀ a b wa wb, T[f]? = some (a, b) → At ws a wa → At ws b wb → (flowL f wa wb).getD i 0 = 0) ↔ ¬ ∀ v, v < n → Con (T.eraseIdx i) 0 v := by
  have ends : ∀ {f a b : Nat}, T[f]? = some (a, b) → ∃ wa wb, At ws a wa ∧ At ws b wb := fun {f a b} e => by
    have := hT _ (List.mem_of_getElem? e)
    obtain ⟨wa, h1⟩ := aw a this.1
    obtain ⟨wb, h2⟩ := aw b this.2
    exact ⟨wa, wb, h1, h2⟩
  have allU : ∀ j ∈ tree, ∀ a b, T[j]? = some (a, b) → j ∈ U := fun j hj a b e => Classical.byContradiction fun nu => by
    obtain ⟨wa, wb, h1, h2⟩ := ends e
    refine fo j hj a b e (((W.con a wa h1).symm.trans (W.con b wb h2)).mono fun t m => ?_)
    obtain ⟨k, hk, ek⟩ := mem_ties.mp m
    exact mem_ties.mpr ⟨k, List.mem_filter.mpr ⟨W.sub k hk, by simpa using fun z : k = j => nu (z ▸ hk)⟩, ek⟩
  have lens : ∀ {a b : Nat} {wa wb : List Int}, At ws a wa → At ws b wb → wb.length = wa.length := fun h1 h2 => by rw [W.wl _ _ h1, W.wl _ _ h2]
  constructor
  · intro h c
    -- i is of the tree
    obtain ⟨t, et⟩ : ∃ t, T[i]? = some t := ⟨_, List.getElem?_eq_getElem hi⟩
    obtain ⟨a, b⟩ := t
    obtain ⟨wa, wb, h1, h2⟩ := ends et
    rcases hF i hi with ht | hf
    · have hU := allU i ht a b et
      have := hT _ (List.mem_of_getElem? et)
      have cab := (c a this.1).symm.trans (c b this.2)
      refine W.dif i hU a b wa wb et h1 h2 ?_
      let g : Nat → Int := fun v => ((ws[v]?.getD none).getD []).getD i 0
      have gv : ∀ v w, At ws v w → g v = w.getD i 0 := fun v w h => by
        unfold At at h
        show ((ws[v]?.getD none).getD []).getD i 0 = _
        rw [h]
        rfl
      have al : g a = g b := by
        refine Con.alike (g := g) (fun t m => ?_) cab
        obtain ⟨k, hk, ek⟩ := List.mem_eraseIdx_iff_getElem?.mp m
        obtain ⟨p, q⟩ := t
        obtain ⟨wp, wq, k1, k2⟩ := ends ek
        show g p = g q
        rw [gv p wp k1, gv q wq k2]
        have kl : k < T.length := (List.getElem?_eq_some_iff.mp ek).1
        rcases hF k kl with kt | kf
        · exact W.eqs k (allU k kt p q ek) p q wp wq ek k1 k2 i (Ne.symm hk)
        · have := h k kf p q wp wq ek k1 k2
          unfold flowL at this
          rw [set_getD_ne (Ne.symm hk), subL_get (lens k1 k2)] at this
          omega
      rw [gv a wa h1, gv b wb h2] at al
      exact al
    · have := h i hf a b wa wb et h1 h2
      unfold flowL at this
      rw [set_getD_self] at this
      · omega
      · unfold subL
        rw [List.length_zipWith, W.wl _ _ h1, W.wl _ _ h2]
        omega
  · intro nc f hf a b wa wb e h1 h2
    refine Classical.byContradiction fun ne => nc fun v hv => ?_
    obtain ⟨ft, fl⟩ := hF2 f hf
    obtain ⟨w, hw⟩ := aw v hv
    by_cases fi : i = f
    · refine (W.con v w hw).mono fun t m => ?_
      obtain ⟨k, hk, ek⟩ := mem_ties.mp m
      exact mem_rest ek fun z => ft (by rw [← fi, ← z]; exact W.sub k hk)
    · have l : Con (T.eraseIdx i) a b := Con.tie (mem_rest e (Ne.symm fi))
      unfold flowL at ne
      rw [set_getD_ne fi, subL_get (lens h1 h2)] at ne
      obtain ⟨c, p, k⟩ := W.two i
      have zp : Con (T.eraseIdx i) 0 p := by
        rcases k a wa h1 with ⟨a1, a2⟩ | ⟨a1, _, a2⟩ <;> rcases k b wb h2 with ⟨b1, b2⟩ | ⟨b1, _, b2⟩
        · omega
        · exact (a2.trans l).trans b2.symm
        · exact (b2.trans l.symm).trans a2.symm
        · omega
      rcases k v w hw with ⟨_, r⟩ | ⟨_, _, r⟩
      · exact r
      · exact zp.trans r
/-! ### the tree and the free ties -/
structure TF (n : Nat) (T : List Arc) (k : Nat) (tree F : List Nat) (ms : List Nat) : Prop where
  mks : MK n (ties T tree) ms
  fo : Fst T tree
  ltT : ∀ j ∈ tree, j < k
  ltF : ∀ j ∈ F, j < k ∧ j ∉ tree
  all : ∀ j, j < k → j ∈ tree ∨ j ∈ F
  con : ∀ j, j < k → ∀ a b, T[j]? = some (a, b) → Con (ties T tree) a b
theorem ties_snoc {k : Nat} {t : Arc} (e : T[k]? = some t) : ties T (tree ++ [k]) = ties T tree ++ [t] := by
  unfold ties
  rw [List.filterMap_append]
  simp [e]
theorem TF.start : TF n T 0 [] [] (List.range n) := ⟨range_ok, fun j m => (by cases m), fun j m => (by cases m), fun j m => (by cases m), fun j h => absurd h (Nat.not_lt_zero _), fun j h => absurd h (Nat.not_lt_zero _)⟩
theorem TF.free {k : Nat} {ms : List Nat} {a b p q : Nat} (h : TF n T k tree F ms) (e : T[k]? = some (a, b)) (ha : ms[a]? = some p) (hb : ms[b]? = some q) (c : p = q) : TF n T (k + 1) tree (F ++ [k]) ms := by
  refine ⟨h.mks, h.fo, fun j m => Nat.lt_succ_of_lt (h.ltT j m), fun j m => ?_, fun j hj => ?_, fun j hj a' b' e' => ?_⟩
  · rcases List.mem_append.mp m with m | m
    · exact ⟨Nat.lt_succ_of_lt (h.ltF j m).1, (h.ltF j m).2⟩
    · rw [List.mem_singleton.mp m]
      exact ⟨Nat.lt_succ_self _, fun z => Nat.lt_irrefl _ (h.ltT k z)⟩
  · by_cases ej : j = k
    · exact .inr (List.mem_append_right _ (List.mem_singleton.mpr ej))
    · exact (h.all j (by omega)).imp id fun z => List.mem_append_left _ z
  · by_cases ej : j = k
    · subst ej
      rw [e] at e'
      cases e'
      exact (h.mks.2 a b p q ha hb).mp c
    · exact h.con j (by omega) a' b' e'
theorem TF.tie {k : Nat} {ms : List Nat} {a b p q : Nat} (h : TF n T k tree F ms) (e : T[k]? = some (a, b)) (ha : ms[a]? = some p) (hb : ms[b]? = some q) (c : p ≠ q) : TF n T (k + 1) (tree ++ [k]) F (renM ms p q) := by
  have nk : k ∉ tree := fun z => Nat.lt_irrefl _ (h.ltT k z)
  have nc : ¬ Con (ties T tree) a b := fun z => c ((h.mks.2 a b p q ha hb).mpr z)
  refine ⟨?_, ?_, ?_, ?_, ?_, ?_⟩
  · rw [ties_snoc e]
    exact renM_ok h.mks ha hb (.inl ⟨rfl, rfl⟩)
  · intro j hj x y ej r
    rcases List.mem_append.mp hj with m | m
    · have jk : j ≠ k := fun z => nk (z ▸ m)
      have ff : (tree ++ [k]).filter (· ≠ j) = tree.filter (· ≠ j) ++ [k] := by
        rw [List.filter_append]
        congr 1
        simp [Ne.symm jk]
      rw [ff, ties_snoc e, Con.snoc] at r
      have sub : ∀ t ∈ ties T (tree.filter (· ≠ j)), t ∈ ties T tree := fun t m => by
        obtain ⟨i, hi, ei⟩ := mem_ties.mp m
        exact mem_ties.mpr ⟨i, (List.mem_filter.mp hi).1, ei⟩
      have cj : Con (ties T tree) x y := Con.tie (mem_ties.mpr ⟨j, m, ej⟩)
      rcases r with r | ⟨r1, r2⟩ | ⟨r1, r2⟩
      · exact h.fo j m x y ej r
      · exact nc (((r1.mono sub).symm.trans cj).trans (r2.mono sub).symm)
      · exact nc (((r2.mono sub).trans cj.symm).trans (r1.mono sub))
    · have jk := List.mem_singleton.mp m
      subst jk
      rw [e] at ej
      cases ej
      have ff : (tree ++ [j]).filter (· ≠ j) = tree := by
        rw [List.filter_append]
        simp only [ne_eq, decide_not, List.filter_cons, decide_true, Bool.not_true, Bool.false_eq_true, if_false, List.filter_nil, List.append_nil]
        refine List.filter_eq_self.mpr fun i hi => ?_
        simpa using fun z : i = j => nk (z ▸ hi)
      rw [ff] at r
      exact nc r
  · intro j m
    rcases List.mem_append.mp m with m | m
    · exact Nat.lt_succ_of_lt (h.ltT j m)
    · rw [List.mem_singleton.mp m]
      exact Nat.lt_succ_self _
  · intro j m
    refine ⟨Nat.lt_succ_of_lt (h.ltF j m).1, fun z => ?_⟩
    rcases List.mem_append.mp z with z | z
    · exact (h.ltF j m).2 z
    · have := (h.ltF j m).1
      rw [List.mem_singleton.mp z] at this
      exact Nat.lt_irrefl _ this
  · intro j hj
    by_cases ej : j = k
    · exact .inl (List.mem_append_right _ (List.mem_singleton.mpr ej))
    · exact (h.all j (by omega)).imp (fun z => List.mem_append_left _ z) id
  · intro j hj a' b' e'
    rw [ties_snoc e]
    by_cases ej : j = k
    · subst ej
      rw [e] at e'
      cases e'
      exact Con.tie (List.mem_append_right _ (List.mem_singleton.mpr rfl))
    · exact (h.con j (by omega) a' b' e').mono fun t m => List.mem_append_left _ m
theorem TF.span {ms : List Nat} (h : TF n T T.length tree F ms) {x y : Nat} (c : Con T x y) : Con (ties T tree) x y := by
  unfold Con at c
  induction c with
  | refl => exact .refl
  | tail _ m ih =>
    refine ih.trans ?_
    rcases mem_sym.mp m with m | m
    · obtain ⟨j, hj, e⟩ := List.mem_iff_getElem.mp m
      exact h.con j hj _ _ (by rw [List.getElem?_eq_getElem hj, e])
    · obtain ⟨j, hj, e⟩ := List.mem_iff_getElem.mp m
      exact (h.con j hj _ _ (by rw [List.getElem?_eq_getElem hj, e])).symm
end
end KG
/-! what hangs together, found by a search (k53) -/
namespace KG
theorem rise_eq : ∀ {l l' : List Nat}, l.Pairwise (· < ·) → l'.Pairwise (· < ·) → (∀ x, x ∈ l ↔ x ∈ l') → l = l'
  | [], [], _, _, _ => rfl
  | [], y :: l', _, _, h => absurd ((h y).mpr List.mem_cons_self) (by simp)
  | x :: l, [], _, _, h => absurd ((h x).mp List.mem_cons_self) (by simp)
  | x :: l, y :: l', h1, h2, h => by
    obtain ⟨a1, a2⟩ := List.pairwise_cons.mp h1
    obtain ⟨b1, b2⟩ := List.pairwise_cons.mp h2
    have e : x = y := by
      rcases List.mem_cons.mp ((h x).mp List.mem_cons_self) with e | m
      · exact e
      · rcases List.mem_cons.mp ((h y).mpr List.mem_cons_self) with e | m'
        · exact e.symm
        · have := b1 x m
          have := a1 y m'
          omega
    subst e
    congr 1
    refine rise_eq a2 b2 fun z => ⟨fun m => ?_, fun m => ?_⟩
    · rcases List.mem_cons.mp ((h z).mp (List.mem_cons_of_mem _ m)) with e | m'
      · have := a1 z m
        omega
      · exact m'
    · rcases List.mem_cons.mp ((h z).mpr (List.mem_cons_of_mem _ m)) with e | m'
      · have := b1 z m
        omega
      · exact m'
open Classical in
/-- the places joined to p, rising -/
noncomputable def lotOf (n : Nat) (T : List Arc) (p : Nat) : List Nat := (List.range n).filter fun v => decide (Con T p v)
open Classical in
theorem mem_lotOf {n : Nat} {T : List Arc} {p v : Nat} : v ∈ lotOf n T p ↔ v < n ∧ Con T p v := by
  unfold lotOf
  rw [List.mem_filter, List.mem_range, decide_eq_true_iff]
theorem lotOf_rise {n : Nat} {T : List Arc} {p : Nat} : (lotOf n T p).Pairwise (· < ·) := List.Pairwise.filter _ List.pairwise_lt_range
open Classical in
theorem lotOf_all {n : Nat} {T : List Arc} : (lotOf n T 0).length = n ↔ ∀ v, v < n → Con T 0 v := by
  constructor
  · intro h v hv
    have e : lotOf n T 0 = List.range n := by
      have s : List.Sublist (lotOf n T 0) (List.range n) := List.filter_sublist
      exact s.eq_of_length (by rw [h, List.length_range])
    exact (mem_lotOf.mp (by rw [e]; exact List.mem_range.mpr hv)).2
  · intro h
    unfold lotOf
    rw [List.filter_eq_self.mpr fun v m => decide_eq_true (h v (List.mem_range.mp m)), List.length_range]
open Classical in
/-- by the marks: those marked like the first place -/
theorem lotOf_marks {n : Nat} {T : List Arc} {ms : List Nat} (h : MK n T ms) (h0 : ms[0]? = some 0) : lotOf n T 0 = (List.range n).filter fun v => decide (ms.getD v 0 = 0) := by
  unfold lotOf
  refine List.filter_congr fun v m => ?_
  have hv : v < ms.length := by
    rw [h.1]
    exact List.mem_range.mp m
  have e : ms[v]? = some ms[v] := List.getElem?_eq_getElem hv
  have := h.2 0 v 0 ms[v] h0 e
  rw [List.getD_eq_getElem?_getD, e]
  show decide (Con T 0 v) = decide (ms[v] = 0)
  exact decide_eq_decide.mpr (by rw [← this]; exact ⟨Eq.symm, Eq.symm⟩)
theorem marks_all {n : Nat} {T : List Arc} {ms : List Nat} (h : MK n T ms) (h0 : ms[0]? = some 0) : ms = List.replicate n 0 ↔ ∀ v, v < n → Con T 0 v := by
  constructor
  · intro e v hv
    refine (h.2 0 v 0 0 h0 ?_).mp rfl
    rw [e, List.getElem?_replicate, if_pos hv]
  · intro c
    refine List.eq_replicate_iff.mpr ⟨h.1, fun b m => ?_⟩
    obtain ⟨v, hv, e⟩ := List.mem_iff_getElem.mp m
    have := (h.2 0 v 0 b h0 (by rw [List.getElem?_eq_getElem hv, e])).mpr (c v (by rw [← h.1]; exact hv))
    exact this.symm
/-! ### the search -/
structure HG (n : Nat) (T : List Arc) (p : Nat) (found waiting : List Nat) : Prop where
  nd : found.Nodup
  lt : ∀ y ∈ found, y < n
  st : p ∈ found
  con : ∀ y ∈ found, Con T p y
  sub : ∀ y ∈ waiting, y ∈ found
  done : ∀ y ∈ found, y ∉ waiting → ∀ z, (y, z) ∈ sym T → z ∈ found
/-- within a turn: here is looked at, the first k ties are -/
structure HGi (n : Nat) (T : List Arc) (p here k : Nat) (found waiting : List Nat) : Prop where
  nd : found.Nodup
  lt : ∀ y ∈ found, y < n
  st : p ∈ found
  con : ∀ y ∈ found, Con T p y
  sub : ∀ y ∈ waiting, y ∈ found
  hr : here ∈ found
  done : ∀ y ∈ found, y ∉ waiting → y ≠ here → ∀ z, (y, z) ∈ sym T → z ∈ found
  part : ∀ j a b, j < k → T[j]? = some (a, b) → (a = here → b ∈ found) ∧ (b = here → a ∈ found)
section
variable {n p here k : Nat} {T : List Arc} {found waiting : List Nat}
theorem HG.start (hp : p < n) : HG n T p [p] [p] := ⟨by simp, fun y m => by rw [List.mem_singleton.mp m]; exact hp, by simp, fun y m => by rw [List.mem_singleton.mp m]; exact .refl, fun y m => m, fun y m h => absurd m h⟩
theorem HG.pop (h : HG n T p found (waiting ++ [here])) : HGi n T p here 0 found waiting := ⟨h.nd, h.lt, h.st, h.con, fun y m => h.sub y (List.mem_append_left _ m), h.sub here (by simp), fun y m h1 h2 => h.done y m (by simp [h1, h2]), fun j a b hj => absurd hj (Nat.not_lt_zero _)⟩
theorem HGi.old {a b : Nat} (h : HGi n T p here k found waiting) (e : T[k]? = some (a, b)) (c : (a = here → b ∈ found) ∧ (b = here → a ∈ found)) : HGi n T p here (k + 1) found waiting :=
  ⟨h.nd, h.lt, h.st, h.con, h.sub, h.hr, h.done, fun j a' b' hj e' => by
    by_cases ej : j = k
    · subst ej
      rw [e] at e'
      cases e'
      exact c
    · exact h.part j a' b' (by omega) e'⟩
theorem HGi.new {a b q : Nat} (hT : In n T) (h : HGi n T p here k found waiting) (e : T[k]? = some (a, b)) (c : (a = here ∧ q = b) ∨ (b = here ∧ q = a)) (nq : q ∉ found) : HGi n T p here (k + 1) (found ++ [q]) (waiting ++ [q]) := by
  have hab := hT _ (List.mem_of_getElem? e)
  have mt := List.mem_of_getElem? e
  refine ⟨?_, fun y m => ?_, List.mem_append_left _ h.st, fun y m => ?_, fun y m => ?_, List.mem_append_left _ h.hr, fun y m h1 h2 z r => ?_, fun j a' b' hj e' => ?_⟩
  · rw [List.nodup_append]
    exact ⟨h.nd, by simp, fun x hx y hy z => nq (by rw [← List.mem_singleton.mp hy, ← z]; exact hx)⟩
  · rcases List.mem_append.mp m with m | m
    · exact h.lt y m
    · rw [List.mem_singleton.mp m]
      rcases c with ⟨_, rfl⟩ | ⟨_, rfl⟩
      · exact hab.2
      · exact hab.1
  · rcases List.mem_append.mp m with m | m
    · exact h.con y m
    · rw [List.mem_singleton.mp m]
      have hh := h.con here h.hr
      rcases c with ⟨rfl, rfl⟩ | ⟨rfl, rfl⟩
      · exact hh.trans (.tie mt)
      · exact hh.trans (Con.tie mt).symm
  · rcases List.mem_append.mp m with m | m
    · exact List.mem_append_left _ (h.sub y m)
    · exact List.mem_append_right _ m
  · rcases List.mem_append.mp m with m | m
    · exact List.mem_append_left _ (h.done y m (fun w => h1 (List.mem_append_left _ w)) h2 z r)
    · exact absurd (List.mem_append_right _ m) h1
  · by_cases ej : j = k
    · subst ej
      rw [e] at e'
      cases e'
      rcases c with ⟨rfl, rfl⟩ | ⟨rfl, rfl⟩
      · exact ⟨fun _ => by simp, fun z => by rw [z]; exact List.mem_append_left _ h.hr⟩
      · exact ⟨fun z => by rw [z]; exact List.mem_append_left _ h.hr, fun _ => by simp⟩
    · have := h.part j a' b' (by omega) e'
      exact ⟨fun z => List.mem_append_left _ (this.1 z), fun z => List.mem_append_left _ (this.2 z)⟩
theorem HGi.stop (h : HGi n T p here T.length found waiting) : HG n T p found waiting := ⟨h.nd, h.lt, h.st, h.con, h.sub, fun y m h1 z r => by
  by_cases e : y = here
  · subst e
    rcases mem_sym.mp r with r | r
    · obtain ⟨j, hj, e⟩ := List.mem_iff_getElem.mp r
      exact (h.part j y z hj (by rw [List.getElem?_eq_getElem hj, e])).1 rfl
    · obtain ⟨j, hj, e⟩ := List.mem_iff_getElem.mp r
      exact (h.part j z y hj (by rw [List.getElem?_eq_getElem hj, e])).2 rfl
  · exact h.done y m h1 e z r⟩
theorem HG.all (h : HG n T p found []) {y : Nat} : y ∈ found ↔ y ∈ lotOf n T p := by
  rw [mem_lotOf]
  refine ⟨fun m => ⟨h.lt y m, h.con y m⟩, fun c => ?_⟩
  have key : ∀ z, Rch (sym T) p z → z ∈ found := fun z r => by
    induction r with
    | refl => exact h.st
    | tail _ m ih => exact h.done _ ih (by simp) _ m
  exact key y c.2
end
end KG
/-! counting by lists of pairs; the places told anew (k53) -/
namespace KG
theorem mem_nrm {T : List Arc} {p : Arc} : p ∈ T.map nrm ↔ ∃ a b, (a, b) ∈ T ∧ p = (min a b, max a b) := by
  rw [List.mem_map]
  constructor
  · rintro ⟨⟨a, b⟩, m, rfl⟩
    exact ⟨a, b, m, rfl⟩
  · rintro ⟨a, b, m, rfl⟩
    exact ⟨(a, b), m, rfl⟩
section
variable {n : Nat}
theorem Plain.left {D : List Arc} {p : Arc} (h : Plain n (D ++ [p])) : Plain n D := ⟨(List.nodup_append.mp h.1).1, fun q m => h.2 q (List.mem_append_left _ m)⟩
theorem Plain.In {D : List Arc} (h : Plain n D) : In n D := fun p m => by
  have := h.2 p m
  omega
/-- what plain_pairs leaves of ties between different places -/
theorem plain_of {T D : List Arc} (hT : In n T) (hne : ∀ t ∈ T, t.1 ≠ t.2) (hd : D.Nodup) (hm : ∀ p, p ∈ D ↔ p ∈ T.map nrm) : Plain n D ∧ D.length ≤ T.length ∧ cnt [] D = cnt [] T := by
  refine ⟨⟨hd, fun p m => ?_⟩, ?_, ?_⟩
  · obtain ⟨a, b, m', rfl⟩ := mem_nrm.mp ((hm p).mp m)
    have h1 := hT _ m'
    have h2 := hne _ m'
    show min a b < max a b ∧ max a b < n
    have e1 : a ≠ b := h2
    have e2 : a < n ∧ b < n := h1
    omega
  · have key : ∀ {l l' : List Arc}, l.Nodup → (∀ x ∈ l, x ∈ l') → l.length ≤ l'.length := fun {l} => by
      induction l with
      | nil => exact fun _ _ => Nat.zero_le _
      | cons x l ih =>
        intro l' h s
        have hx := s x List.mem_cons_self
        have e := List.length_erase_of_mem hx
        obtain ⟨h1, h2⟩ := List.nodup_cons.mp h
        have := ih (l' := l'.erase x) h2 fun y hy => (List.mem_erase_of_ne (fun z => h1 (by rw [← z]; exact hy))).mpr (s y (List.mem_cons_of_mem _ hy))
        have : 0 < l'.length := List.length_pos_of_mem hx
        simp
        omega
    have := key hd fun x m => (hm x).mp m
    rwa [List.length_map] at this
  · rw [cnt_same hm, cnt_nrm]
/-- the last pair taken away, and made one -/
theorem plain_step {D : List Arc} {k g : Nat} (h : Plain n (D ++ [(k, g)])) : Plain n D ∧ In n (mapA (kg k g) D) ∧ (∀ t ∈ mapA (kg k g) D, t.1 ≠ t.2) ∧ cnt [] (D ++ [(k, g)]) = cnt [] D + cnt [] (mapA (kg k g) D) := by
  have hp := h.left
  have kl := h.2 (k, g) (by simp)
  have gl := glue_kg (n := n) kl.1 kl.2
  have nm : (k, g) ∉ D := fun m => by
    have := (List.nodup_append.mp h.1).2.2 _ m (k, g) (by simp)
    exact this rfl
  refine ⟨hp, fun t m => ?_, fun t m => ?_, cnt_snoc gl hp.In⟩
  · obtain ⟨⟨a, b⟩, m', rfl⟩ := List.mem_map.mp m
    have := hp.2 _ m'
    have e1 : k < g ∧ g < n := kl
    have e2 : a < b ∧ b < n := this
    show kg k g a < n ∧ kg k g b < n
    unfold kg
    constructor <;> split <;> omega
  · obtain ⟨⟨a, b⟩, m', rfl⟩ := List.mem_map.mp m
    have q := hp.2 _ m'
    have e1 : k < g ∧ g < n := kl
    have e2 : a < b ∧ b < n := q
    show kg k g a ≠ kg k g b
    intro z
    rcases (gl.iff_ a b (by omega) e2.2).mp z with z | ⟨rfl, rfl⟩ | ⟨rfl, rfl⟩
    · omega
    · exact nm m'
    · omega
/-- the places with two made one, told anew -/
def newP (low high x : Nat) : Nat := if x < high then x else if x = high then low else x - 1
theorem glue_newP {low high : Nat} (h : low < high) (hh : high < n) : Glue n (newP low high) low high := ⟨by omega, hh, by omega, fun x y hx hy => by
  unfold newP
  by_cases a : x < high <;> by_cases b : y < high <;> by_cases c : x = high <;> by_cases d : y = high <;> simp [a, b, c, d] <;> omega⟩
theorem newP_lt {low high x : Nat} (h : low < high) (hh : high < n) (hx : x < n) : newP low high x < n - 1 := by
  unfold newP
  split
  · omega
  · split <;> omega
theorem Glue.symm {f : Nat → Nat} {u v : Nat} (g : Glue n f u v) : Glue n f v u := ⟨g.hv, g.hu, Ne.symm g.ne, fun x y hx hy => by
  rw [g.iff_ x y hx hy, or_comm (a := x = u ∧ y = v)]⟩
/-- a tie left out, and its places as one: the numbers add up -/
theorem cnt_lesser {T T' : List Arc} {a b : Nat} (hT : In n (T ++ T')) (ha : a < n) (hb : b < n) (hne : a ≠ b) : cnt [] (T ++ (a, b) :: T') = cnt [] (T ++ T') + cnt [] (mapA (newP (min a b) (max a b)) (T ++ T')) := by
  have g := glue_newP (n := n) (low := min a b) (high := max a b) (by omega) (by omega)
  by_cases h : a ≤ b
  · rw [Nat.min_eq_left h, Nat.max_eq_right h] at *
    exact cnt_mid g hT
  · rw [Nat.min_eq_right (by omega), Nat.max_eq_left (by omega)] at *
    exact cnt_mid g.symm hT
end
/-! ### turns -/
open Classical in
/-- the ways of the menus by which all ties lead back -/
noncomputable def turnL (T : List Arc) (ms : List (List Int)) : List (List Int) := (waysOf ms).filter fun w => decide (Back (arcsOf T w))
end KG
/-! an own error whose __init__ begins with super().__init__('text'): that first statement -/
namespace HX
open PySem PySem.W PySem.Calls PyProof.Rows PySem.HandSPX
section
variable {prog : Program} {w : World} {A : Around} {E : Value → Shared → Prop} {h : Heap} {g : Array GenState} {d : Drawn} {t : Nat} {os : OsState}
variable {nm q : Str} {C N : Addr} {bs bm : List Value} {hdct : Bool} {sn : List Str} {sub : List Value} {ab : Bool} {col : Option Bool} {dd : Option Addr} {k0 k1 k2 k3 k5 : Option Value}
/-- ValueError.__init__, bound to a fresh error, called -/
theorem call_mw {u e t0 : Addr} {rest : List Value} {Q : Value → Shared → Prop}
    (hC : h.get? C = some (excClassObj nm q C N bs bm hdct sn sub ab col dd k0 k1 k2 k3 k5 "ValueError.__new__")) (hT : ∀ X : String, bm.contains (.type X) = [Value.type "ValueError", .type "Exception", .type "BaseException", .type "object"].contains (.type X))
    (he : h.get? e = some (excO C t0)) (hu : h.get? u = some (kxs_mw "ValueError.__init__" e)) (hrest : rest.length ≤ sizeLine)
    (hq : ∀ h' t1, (∀ b o, b ≠ e → h.get? b = some o → h'.get? b = some o) → h'.get? e = some (excO C t1) → Q .none ⟨h', g, d, t, os⟩) :
    wpAny (model prog w) A (call (.ref u) rest) Q E ⟨h, g, d, t, os⟩ := by
  refine wpAny_call (codeAny_of_tree ?_)
  show wpAny _ A.in1 (callAny (.ref u) ⟨rest, []⟩) _ _ _
  simp only [callAny]
  refine wpAny_bind (wpAny_load hu ?_)
  simp only [kxs_mw, show (Value.type "method-wrapper" == Value.type "method" || Value.type "method-wrapper" == Value.type "builtin_function_or_method" || Value.type "method-wrapper" == Value.type "method-wrapper") = true by decide, if_true]
  refine KFB.if_so (by decide) ?_
  refine wpAny_bind (PySem.ESX.check_bound F.excBase_ValueError hC he rfl ?_)
  refine wpAny_bind (wpAny_pure (wpAny_pure ?_))
  refine ⟨Code.quiet_builtin _ (by decide +kernel), codeAny_builtin F.excBase_ValueError.initEntry ?_⟩
  rw [Around.under_plainId F.excBase_ValueError.init.plain _]
  wp_walk
  refine hq _ h.objs.size (fun b o hb ho => ?_) ?_
  · rw [Heap.get?_update_other _ _ (Ne.symm hb)]
    exact Heap.get?_push_of_some _ ho
  · rw [Heap.get?_update_self _ (Heap.get?_push_of_some _ he) rfl]
    rfl
end
/-- what the written part says of an own error class: its own cell, its code, its bases -/
structure SupC (prog : Program) (K : Frag) (C fI cc cda : Addr) : Prop where
  cls : ∃ nm q N bs bm sn sub ab col dd k0 k1 k2 k3 k5, K.lookup C = some (excClassObj nm q C N bs bm true sn sub ab col dd k0 k1 k2 k3 k5 "ValueError.__new__") ∧ refsVE bm = true
  cell : ∃ cl cld csl, K.lookup cc = some ⟨cl, cld, .cell (some (.ref C)), csl⟩
  code : ∃ ccl cdd vs ccs file tf, K.lookup cda = some ⟨ccl, cdd, .fields vs, ccs⟩ ∧ vs[2]? = some (.str file tf) ∧ ((prog.main.file : Str) == file) = true
  sub : mroIn K C (.ref C) = some true
  sup : ks_superIn K C C "__init__" = some (some (.builtin "ValueError.__init__"))
  isVE : subIn K (.ref C) (.type "ValueError") = some true
  third : nsIn K cStatics "thirdparty.any" = some none
  glob : nsIn K mainGlobals "super" = some none
  top : (prog.main.scope.names.lookup ("super" : Str)).isSome = false
theorem one_size_ (v : Value) : [v].length ≤ sizeLine := by
  rw [sizeLine_eq]
  exact (by decide : 1 ≤ 16777216)
/-- how the call is read: by its places -/
abbrev EvS (scope : Scope) (q : Str) (L fI cc cda : Addr) (txt : Str) (p0 p1 p2 p3 p4 : Pos) (j : Nat) : Prop := ∃ pl : Sem Bool,
  eval (.Call (.Attribute (.Call (.Name "super" p0) [] [] p1) "__init__" p2) [.Constant (.str txt) j p3] [] p4) (envX q scope L fI (.ref cda) [("__class__", cc)]) = (do
      let ov ← attributeBase (.Call (.Name "super" p0) [] [] p1) "__init__" (envX q scope L fI (.ref cda) [("__class__", cc)]) (eval (.Call (.Name "super" p0) [] [] p1) (envX q scope L fI (.ref cda) [("__class__", cc)]))
      standAt p2.atName
      let (f, first) ← holding [ov] (getMethod ov "__init__" pl)
      callWith p4 f first (backTo p4 (starEach [.Constant (.str txt) j p3] (envX q scope L fI (.ref cda) [("__class__", cc)]))) [])
section
variable {prog : Program} {w : World} {A : Around} {E : Value → Shared → Prop} {s : Shared} {K : Frag} {mg mb m : Str → Option Value} {C fI cc cda x L t0 : Addr} {q txt : Str} {scope : Scope} {fd : FuncData} {body : List Stmt} {oc : Value} {od : Option Addr} {osl : Array (Option Value)} {ar : Arg} {p0 p1 p2 p3 p4 p5 : Pos} {j : Nat}
theorem super_init {Q : Flow → Shared → Prop} (T : SupC prog K C fI cc cda) (X : K.In s.heap) (hg : s.heap.Ns mainGlobals mg) (hb : s.heap.Ns builtinsNs mb) (hbb : mb "super" = bootBuiltins "super") (hns : s.heap.Ns L m) (hv : m ar.arg = some (.ref x)) (hx : s.heap.get? x = some (excO C t0))
    (hf : K.lookup fI = some ⟨oc, od, .func fd, osl⟩) (hp : (fd.params.posonlyargs ++ fd.params.args).head? = some ar)
    (hks : scope.names.lookup ("super" : Str) = some .globalImplicit) (hkc : scope.names.lookup ("__class__" : Str) = some .free) (hka : scope.names.lookup ar.arg = some .local) (hk : scope.kind = .function) (hdbg : (ar.arg == ("__debug__" : Str)) = false)
    (he : EvS scope q L fI cc cda txt p0 p1 p2 p3 p4 j) 
    (hq : ∀ h' t1 tk, (∀ b o, b ≠ x → s.heap.get? b = some o → h'.get? b = some o) → h'.get? x = some (excO C t1) → Q .next { s with heap := h', toks := tk }) :
    _root_.PySem.wpAt (model prog w) A (.func body (envX q scope L fI (.ref cda) [("__class__", cc)])) (exec (.Expr (.Call (.Attribute (.Call (.Name "super" p0) [] [] p1) "__init__" p2) [.Constant (.str txt) j p3] [] p4) p5) (envX q scope L fI (.ref cda) [("__class__", cc)])) Q E s := by
  obtain ⟨pl, he⟩ := he
  obtain ⟨kind, names, isG, isC, more⟩ := scope
  dsimp only at hk
  subst hk
  obtain ⟨nm, qn, N, bs, bm, sn, sub, ab, col, dd, k0, k1, k2, k3, k5, hC, hbm⟩ := T.cls
  obtain ⟨cl, cld, csl, hcell⟩ := T.cell
  obtain ⟨ccl, cdd, vs, ccs, file, tf, hcode, hvs, hfile⟩ := T.code
  have hcl : clsIn K C = some { name := nm, bases := bs, mro := .ref C :: bm, ns := N, qualname := qn, hasDict := true, slotNames := sn, subclasses := sub, abstract := ab, collection := col, hasDel := false } := by unfold clsIn; rw [hC] <;> rfl
  have I : InstAt s.heap x (excO C t0) C none := ⟨hx, rfl, rfl, trivial⟩
  obtain ⟨hh, g, d, t, os⟩ := s
  have hD1 : hh.get? C = some (excClassObj nm qn C N bs bm true sn sub ab col dd k0 k1 k2 k3 k5 "ValueError.__new__") := X _ _ hC
  refine ks_wpAt_Expr_any (ks_wpAt_MethodCall ?_ he)
  refine ks_wpAt_super_base (env := envX q ⟨.function, names, isG, isC, more⟩ L fI (.ref cda) [("__class__", cc)]) hks hkc (by decide +kernel) rfl (X _ _ hf) rfl hp rfl (X _ _ hcode) rfl hvs hfile T.top ?_
  refine ks_loadName_global rfl hks (loadGlobal_builtin (env := envX q ⟨.function, names, isG, isC, more⟩ L fI (.ref cda) [("__class__", cc)]) hg (mg_none_of X hg T.glob) hb (hbb.trans (by decide +kernel)) ⟨rfl, ?_⟩)
  refine wpAny_loadName_free rfl hkc rfl ⟨_, X _ _ hcell, rfl⟩ ?_
  refine wpAny_loadName_local rfl hka hns hv ?_
  refine ks_wpAny_isType_cls hD1 rfl ⟨rfl, ?_⟩
  refine ks_wpAny_call_super hD1 rfl I.at_ I.cls (fun c e => ?_) (looks_mroIn X T.sub) (fun h1 e1 k1' => ?_)
  · cases e
  · have X1 : K.In h1 := fun b o z => k1' b o (X b o z)
    have hx1 : h1.get? x = some (excO C t0) := k1' _ _ hx
    have I1 : InstAt h1 x (excO C t0) C none := ⟨hx1, rfl, rfl, trivial⟩
    have hm := T.sup
    unfold ks_superIn at hm
    rw [hcl] at hm
    refine kxs_getMethod kxs_ValueError e1 (looks_opaque X1 T.third) (l₀ := .ref C :: bm) ?_ rfl X1 hm (I1.type.andThen (looks_subIn X1 T.isVE)) (ks_ne X1 I1 hcl) (by decide +kernel) ?_
    · exact fun A Q E s k q => wpAny_bind ((looks_clsIn X1 hcl) A _ E s k (wpAny_pure q))
    · have hu : (h1.push (kxs_mw "ValueError.__init__" x)).get? h1.objs.size = some (kxs_mw "ValueError.__init__" x) := Heap.get?_push_at rfl rfl
      have k2' : ∀ b o, h1.get? b = some o → (h1.push (kxs_mw "ValueError.__init__" x)).get? b = some o := fun b o z => Heap.get?_push_of_some _ z
      refine kxs_callWith (i := "ValueError.__init__") (x := x) (by rfl) (evalArgs_plain ?_)
      refine spliced_cons (Constant_str (k := j) (pos := p3) ?_)
      refine spliced_nil ⟨hu, ?_⟩
      refine call_mw (k2' _ _ (k1' _ _ hD1)) (fun X => refsVE_contains X bm hbm) (k2' _ _ hx1) hu (one_size_ _) (fun h' t1 k3' e3 => ?_)
      exact hq h' t1 _ (fun b o hb z => k3' b o hb (k2' b o (k1' b o z))) e3
end
end HX
/-! an own error's __init__ that begins with super().__init__('text'): its promise by the rest of its body -/
namespace HX
open PySem PySem.Spec PyProof.Rows L2
/-- the scope of such an __init__ -/
structure SupScope (N ps : List Str) (sc : Scope) : Prop where
  kind : sc.kind = .function
  co : sc.isCoroutine = false
  gen : sc.isGenerator = false
  nd : N.Nodup
  pre : N.take ps.length = ps
  par : ∀ x ∈ ps, sc.names.lookup x = some .local
  nocell : ∀ y ∈ sc.names, y.2 ≠ .cell
  free : ∀ y ∈ sc.names, y.2 = .free → y.1 = ("__class__" : Str)
  ks : sc.names.lookup ("super" : Str) = some .globalImplicit
  kc : sc.names.lookup ("__class__" : Str) = some .free
theorem look_none' {α : Type} {x : Str} : ∀ {l : List (Str × α)}, (∀ w, (x, w) ∉ l) → l.lookup x = none
  | [], _ => rfl
  | (y, v) :: r, h => by
    have e : (x == y) = false := by
      cases q : (x == y) with
      | false => rfl
      | true => exact absurd (by rw [beq_iff_eq.mp q]; exact List.mem_cons_self) (h v)
    rw [List.lookup_cons, e]
    exact look_none' fun w hw => h w (List.mem_cons_of_mem _ hw)
theorem lookup_app {α : Type} {x : Str} : ∀ (l r : List (Str × α)), (l ++ r).lookup x = (l.lookup x).or (r.lookup x)
  | [], r => by simp
  | (y, v) :: l, r => by
    rw [List.cons_append, List.lookup_cons, List.lookup_cons]
    cases (x == y) with
    | true => rfl
    | false => exact lookup_app l r
theorem zip_look' : ∀ {ps : List Str} {us : List Value} {i : Nat} {x : Str} {u : Value}, ps.Nodup → ps[i]? = some x → us[i]? = some u → (ps.zip us).reverse.lookup x = some u
  | [], _, _, _, _, _, h, _ => by simp at h
  | _ :: _, [], _, _, _, _, _, h => by simp at h
  | p :: ps, v :: us, 0, x, u, nd, h1, h2 => by
    have e1 : p = x := by simpa using h1
    have e2 : v = u := by simpa using h2
    subst e1 e2
    have hn : (ps.zip us).reverse.lookup p = none := look_none' fun w hw => (List.nodup_cons.mp nd).1 (List.of_mem_zip (List.mem_reverse.mp hw)).1
    rw [List.zip_cons_cons, List.reverse_cons, lookup_app, hn]
    simp [List.lookup]
  | p :: ps, v :: us, i + 1, x, u, nd, h1, h2 => by
    have e : (ps.zip us).reverse.lookup x = some u := zip_look' (i := i) (List.nodup_cons.mp nd).2 (by simpa using h1) (by simpa using h2)
    rw [List.zip_cons_cons, List.reverse_cons, lookup_app, e]
    rfl
abbrev envS (qual : Str) (scope : Scope) (L f cc cda : Addr) : Env := PySem.W.envX qual scope L f (.ref cda) [("__class__", cc)]
def cxS (CX : CXT) (P : Program) (w : World) (K : PySem.W.Frag) (mg : Str → Option Value) (base : Heap) (N : List Str) (qual : Str) (scope : Scope) (f cc cda : Addr) (A : Around) (outer : List Env) (s : Shared) (H : Hp) (E : XK) : Cx where
  prog := P
  w := w
  K := K
  mg := mg
  base := base
  A := A.deeper (envS qual scope s.heap.objs.size f cc cda)
  N := N
  s_0 := s
  H_0 := H
  env := envS qual scope s.heap.objs.size f cc cda
  outer := outer
  stack := envS qual scope s.heap.objs.size f cc cda :: outer
  ex := []
  calm := true
  fn := fun _ => false
  pn := []
  xe := fun e s' => wpAny (model P w) (A.deeper (envS qual scope s.heap.objs.size f cc cda)) (leaving (envS qual scope s.heap.objs.size f cc cda) e) (fun _ s'' => CX outer H s E e s'') (fun e' s'' => CX outer H s E e' s'') s'
section
variable {CX : CXT} {P : Program} {w : World} {K : PySem.W.Frag} {mg : Str → Option Value} {base : Heap} {N ps : List Str} {qual : Str} {scope : Scope} {f cc cda C : Addr} {A : Around} {outer : List Env} {s : Shared} {H : Hp} {E : XK} {us : List Value} {vs : List V}
theorem inv_startS {h₁ : Heap} {tk : Nat} (S : SupScope N ps scope) (T : SupC P K C f cc cda) (hd : A.handled = none) (e0 : Env0 P w K mg base A outer s H) (hl : vs.length = ps.length) (r : Vals vs us) (hns : h₁.Ns s.heap.objs.size fun y => (ps.zip us).reverse.lookup y)
    (kp : ∀ b o, s.heap.get? b = some o → h₁.get? b = some o) : Inv (cxS CX P w K mg base N qual scope f cc cda A outer s H E) [] (start N vs) H { s with heap := h₁, toks := tk } := by
  have hpl : ps.length ≤ N.length := by
    have q := congrArg List.length S.pre
    rw [List.length_take] at q
    omega
  obtain ⟨cl, cld, csl, hcell⟩ := T.cell
  have hcb := e0.mod.kin _ _ hcell
  have hcs := e0.bs _ _ hcb
  have noA : ∀ b : Addr, b ∉ (cxS CX P w K mg base N qual scope f cc cda A outer s H E).ex := fun b z => absurd (show b ∈ ([] : List Addr) from z) (by simp)
  have cls1 : ∀ {y : Str} {c : Addr}, ([(("__class__" : Str), cc)] : List (Str × Addr)).lookup y = some c → y = ("__class__" : Str) ∧ c = cc := fun {y c} h => by
    rw [List.lookup_cons] at h
    cases q : (y == ("__class__" : Str)) with
    | true =>
      rw [q] at h
      exact ⟨beq_iff_eq.mp q, (Option.some.inj h).symm⟩
    | false =>
      rw [q] at h
      cases h
  refine ⟨⟨e0.mod, S.kind, rfl, rfl, Nat.le_refl _, fun y z c h1 h2 => ?_, fun y hy => ?_, fun y c z _ => ?_, fun _ => hd, Around.frames_deeper e0.frames, .inr ⟨rfl, rfl⟩, fun b z => absurd z (noA b), e0.bs, e0.bsz, fun b _ _ => noA b, fun b z => absurd z (noA b), e0.funs, e0.frf⟩,
    rfl, e0.bare, Un.kept kp, ⟨_, hns, fun i y v e1 e2 e3 => ?_⟩, fun y c e => ?_, e0.hok.fresh (Nat.le_refl _), fun y c e => ?_, fun p hp => absurd (show p ∈ ([] : List (Addr × Obj)) from hp) (by simp), e0.hok.kept kp, ?_⟩
  · exact (cls1 h1).1.trans (cls1 h2).1.symm
  · have hy : scope.names.lookup y = some .cell ∨ scope.names.lookup y = some .free := hy
    rcases hy with hy | hy
    · exact absurd rfl (S.nocell _ (PySem.mem_of_lookup hy))
    · have e := S.free _ (PySem.mem_of_lookup hy) rfl
      refine ⟨cc, ?_⟩
      show ([(("__class__" : Str), cc)] : List (Str × Addr)).lookup y = some cc
      have e' : y = ("__class__" : Str) := e
      rw [e']
      simp [List.lookup]
  · cases (show false = true from z)
  · have e1 : N[i]? = some y := e1
    have e2 : (start N vs)[i]? = some (some v) := e2
    have hi : i < vs.length := by
      unfold L2.start at e2
      by_cases hi : i < vs.length
      · exact hi
      · rw [List.getElem?_append_right (by simpa using hi)] at e2
        rw [List.getElem?_replicate] at e2
        split at e2 <;> cases e2
    have ha : vs[i]? = some v := by
      unfold L2.start at e2
      rw [List.getElem?_append_left (by simpa using hi), List.getElem?_map] at e2
      cases e : vs[i]? with
      | none => rw [e] at e2; cases e2
      | some a => rw [e] at e2; cases e2; rfl
    obtain ⟨u, hu, rv⟩ := r.get ha
    have hp : ps[i]? = some y := by
      rw [← S.pre, List.getElem?_take_of_lt (by omega)]; exact e1
    have ndP : ps.Nodup := by rw [← S.pre]; exact S.nd.sublist (List.take_sublist _ _)
    exact ⟨u, rv, .inl ⟨S.par y (List.mem_of_getElem? hp), zip_look' ndP hp hu⟩⟩
  · obtain ⟨_, rfl⟩ := cls1 e
    exact ⟨_, _, kp _ _ hcs.1, rfl⟩
  · obtain ⟨_, rfl⟩ := cls1 e
    exact hcs.2
  · unfold L2.start
    show _ = N.length
    rw [List.length_append, List.length_map, List.length_replicate]
    omega
/-- THE RULE for such an __init__: the rest of its body, behind super().__init__('text') -/
theorem fn_ofS {k : Nat} {name txt : Str} {params : Arguments} {rest : List Stmt} {dV kV doc pm ct oc : Value} {an od : Option Addr} {osl : Array (Option Value)} {sp : Sp} {p0 p1 p2 p3 p4 p5 pa : Pos} {j : Nat} {qs : List Str}
    (lk : K.lookup f = some ⟨oc, od, .func (PySem.W.fnX name qual params (.Expr (.Call (.Attribute (.Call (.Name "super" p0) [] [] p1) "__init__" p2) [.Constant (.str txt) j p3] [] p4) p5 :: rest) scope [("__class__", cc)] dV kV doc pm an (.ref cda) ct), osl⟩)
    (hcd : PySem.W.codeIn K (.ref cda) qual = true) (S : SupScope N ps scope) (hps : ps = ("self" : Str) :: qs) (hpar : ∃ ann pp, (params.posonlyargs ++ params.args).head? = some { arg := "self", annotation := ann, pos := pp }) (T : SupC P K C f cc cda)
    (he : ∀ L, EvS scope qual L f cc cda txt p0 p1 p2 p3 p4 j)
    (len : ∀ vs H Q E, sp vs H Q E → vs.length = ps.length) (hself : ∀ vs H Q E, sp vs H Q E → ∃ x ws, vs = .ref x :: ws ∧ H x = some (exo x C none))
    (hbody : ∀ (A : Around) (outer : List Env) (s : Shared) (H : Hp) (vs : List V) (Q : VK) (E : XK), Room k (A.deeper (envS qual scope s.heap.objs.size f cc cda)) → sp vs H Q E →
      ∃ t, PSs (cxS CX P w K mg base N qual scope f cc cda A outer s H E) rest t ∧ t { nx := fun _ H' => Q .non H', rt := Q } (start N vs) H) :
    FnOk P w K mg base CX (k + 1) f (PySem.W.fnX name qual params (.Expr (.Call (.Attribute (.Call (.Name "super" p0) [] [] p1) "__init__" p2) [.Constant (.str txt) j p3] [] p4) p5 :: rest) scope [("__class__", cc)] dV kV doc pm an (.ref cda) ct) ps sp := by
  refine ⟨len, fun A outer s H args us vs Q E hr e0 hb r hsp => ?_⟩
  have hl := len _ _ _ _ hsp
  have KX : K.In s.heap := e0.mod.kin.keeps fun b o e => (e0.bs b o e).1
  have lim : s.heap.NoLimit := e0.mod.nolimit.keeps fun b o e => (e0.bs b o e).1
  obtain ⟨x, ws, rfl, hx⟩ := hself _ _ _ _ hsp
  obtain ⟨ann, pp, hhead⟩ := hpar
  refine PySem.ks_codeAny_call_defAt hr.depth (KX _ _ lk) rfl lim (PySem.W.codeRec_of KX hcd) rfl hb S.nocell (fun y hy => ?_) (fun h₁ hns kp => ?_) S.co S.gen S.kind
  · obtain ⟨n, v⟩ := y
    exact S.par n (List.of_mem_zip hy).1
  · have I : Inv (cxS CX P w K mg base N qual scope f cc cda A outer s H E) [] (start N (.ref x :: ws)) H { s with heap := h₁, toks := s.toks + (ps.zip us).length } := inv_startS S T hr.hd e0 hl r hns kp
    obtain ⟨t, ht, hq⟩ := hbody A outer s H _ Q E (hr.deeper _) hsp
    obtain ⟨t1, hx1⟩ := exo_at I.hok hx
    obtain ⟨mb, hb1, hb2⟩ := I.mod.blt
    obtain ⟨u0, us', rfl, ru0⟩ : ∃ u0 us', us = u0 :: us' ∧ RelV (.ref x) u0 := by
      cases r with
      | cons a b => exact ⟨_, _, rfl, a⟩
    cases (show u0 = Value.ref x from ru0)
    have ndP : ps.Nodup := by rw [← S.pre]; exact S.nd.sublist (List.take_sublist _ _)
    have hv : (fun y => (ps.zip (Value.ref x :: us')).reverse.lookup y) ("self" : Str) = some (.ref x) := zip_look' (i := 0) ndP (by rw [hps]; rfl) rfl
    have hka : scope.names.lookup ("self" : Str) = some .local := S.par _ (by rw [hps]; exact List.mem_cons_self)
    refine PySem.ks_wpAt_execs_cons (super_init (fd := PySem.W.fnX name qual params (.Expr (.Call (.Attribute (.Call (.Name "super" p0) [] [] p1) "__init__" p2) [.Constant (.str txt) j p3] [] p4) p5 :: rest) scope [("__class__", cc)] dV kV doc pm an (.ref cda) ct) T I.kIn (I.mod.glob.keeps I.bk) (hb1.keeps I.bk) (hb2 _ (by decide)) hns hv hx1 lk hhead S.ks S.kc hka S.kind (show ((("self" : Str)) == ("__debug__" : Str)) = false by decide +kernel) (he _) (fun h' t2 tk k2 hx2 => ?_))
    refine wpAt_of_wpAny ?_
    have J : Inv (cxS CX P w K mg base N qual scope f cc cda A outer s H E) [] (start N (.ref x :: ws)) (upd H x (exo x C none)) { s with heap := h', toks := tk } := I.write (x := x) (e := x) (o := exo x C none) (t' := tk) (h' := h') (by rw [hx]; trivial) (.inl rfl) k2 ⟨_, hx2⟩ (exo_ok hx2)
    have eH : upd H x (exo x C none) = H := by
      funext b
      by_cases hb : b = x
      · rw [hb, upd_same, hx]
      · rw [upd_ne hb]
    rw [eH] at J
    refine wpAny_mono (ht.run [] _ (start N (.ref x :: ws)) H _ J hq) (fun fl s' hs => ?_) fun e s' hs => hs
    have fin : ∀ {σ' : L2.St} {H' : Hp} {v : V} {u : Value}, Inv (cxS CX P w K mg base N qual scope f cc cda A outer s H E) [] σ' H' s' → RelV v u → Q v H' → CE outer P w H s Q u s' :=
      fun {σ' H' v u} J rv q => ⟨v, H', J.os, J.bare, J.base, J.hok, rv, q⟩
    cases fl with
    | ret u =>
      obtain ⟨v, σ', H', J, rv, q⟩ := hs
      exact fin J rv q
    | next =>
      obtain ⟨σ', H', J, q⟩ := hs
      exact fin (v := V.non) (u := Value.none) J rfl q
    | brk =>
      obtain ⟨_, _, _, q⟩ := hs
      exact False.elim q
    | cont =>
      obtain ⟨_, _, _, q⟩ := hs
      exact False.elim q
end
end HX
/-! own errors as tracked things: made, read, asked for their class; try .. except X as n with the error tracked; defs that run whether or not an error is handled -/
namespace PySem.W
open PySem PySem.Spec PySem.Calls PyProof.Rows
section
variable {prog : Program} {w : World} {A : Around} {E : Value → Shared → Prop} {s : Shared} {K : Frag} {x D : Addr} {ox : Obj} {od : Option Obj}
theorem hx_classE {Q : Option Value → Shared → Prop} (hga : findIn K (.ref D) "__getattribute__" = some (some (.builtin "BaseException.__getattribute__"))) (hgt : findIn K (.ref D) "__getattr__" = some none) (hsub : subIn K (.ref D) (.type "BaseException") = some true)
    (hdct : hasDictIn K D = true) (ha : findIn K (.ref D) "__class__" = some (some (.builtin "object.__class__")))
    (hn : specialIn K (.builtin "object.__class__") "__get__" = some (some (.builtin "getset_descriptor.__get__"))) (htk : takesIn K (.builtin "object.__class__") = some true) (hm : mroIn K D (.type "object") = some true)
    (X : K.In s.heap) (I : InstAt s.heap x ox D od) (h : Q (some (.ref D)) { s with toks := s.toks + 1 }) : wpAny (model prog w) A (getAttr? (.ref x) "__class__") Q E s := by
  have hf : findObj K D od "__class__" = some (.bind (.builtin "getset_descriptor.__get__") (.builtin "object.__class__")) := by
    have hc : (clsIn K D).isSome = true := by obtain ⟨cd, hc, _⟩ := any_some hdct; rw [hc]; rfl
    cases od with
    | none => exact findObj_dataN hc ha hn htk
    | some o => exact findObj_data hc ha hn htk
  obtain ⟨hp, g, d, t, os⟩ := s
  have L0 := I.type (M := model prog w)
  have L1 := looks_findIn (M := model prog w) X hga
  have L2 := looks_findIn (M := model prog w) X hgt
  have L3 := looks_find (M := model prog w) X I hf
  have sub : Looks (model prog w) hp (isInstance (.ref x) (.type "BaseException")) true := L0.andThen (looks_subIn X hsub)
  have hx0 : (false && onTheHeap (Value.builtin "BaseException.__getattribute__")) = false := rfl
  have hx2 : (Value.builtin "BaseException.__getattribute__" == Value.builtin "object.__getattribute__") = false := by decide +kernel
  have hx1 : (onTheHeap (Value.ref D) && Value.builtin "BaseException.__getattribute__" == Value.builtin "object.__getattribute__") = false := by rw [hx2]; rfl
  unfold getAttr? getAttrBy? getAttrBy
  refine wpAny_bind (wpAny_mkText (wpAny_bind (wpAny_attempt (wpAny_holding (wpAny_bind (L0.at (wpAny_bind (L1.at ?_))))))))
  show wpAny _ _ (if (onTheHeap (Value.ref D) && Value.builtin "BaseException.__getattribute__" == Value.builtin "object.__getattribute__") = true then _ else _) _ _ _
  rw [hx1, if_neg Bool.false_ne_true]
  unfold getAttrByItsOwn hookBefore
  refine wpAny_bind ?_
  rw [if_pos (show onTheHeap (Value.ref D) = true from rfl)]
  refine L2.at ?_
  refine wpAny_bind (wpAny_attempt (wpAny_holding ?_))
  unfold callGetattribute
  rw [hx0, if_neg Bool.false_ne_true]
  unfold boundAndCalled
  rw [PySem.F.excAttr_ValueError.ga.bind (.ref x)]
  refine wpAny_bind (wpAny_pure ?_)
  show wpAny _ _ (call (.builtin "BaseException.__getattribute__") [.ref x, .str "__class__" t]) _ _ _
  refine wpAny_call (codeAny_call_builtin PySem.F.excAttr_ValueError.ga.plain PySem.F.entry_bexc_ga ?_)
  refine @check_slot (model prog w) _ _ ⟨hp, g, d, t + 1, os⟩ "BaseException.__getattribute__" "BaseException" "__getattribute__" (.ref x) [.str "__class__" t] [] _ (by decide +kernel) (by decide +kernel) sub (PySem.F.args_bexc_ga (.ref x) (.str "__class__" t)) ?_
  unfold Builtin.«object.__getattribute__»
  refine wpAny_bind (wpAny_of_eq (a := ((Value.ref x : Value), [Value.str "__class__" t])) (by first | rfl | (simp only [slotArgs]; rfl)) ?_)
  refine wpAny_bind (wpAny_pure (wpAny_bind (L0.at (wpAny_bind (L3.at ?_)))))
  show wpAny _ _ (holding [Value.builtin "object.__class__"] (call (.builtin "getset_descriptor.__get__") [.builtin "object.__class__", .ref x, .ref D]) >>= ret) _ _ _
  refine wpAny_bind (wpAny_holding (wpAny_call (class_get (s := ⟨hp, g, d, t + 1, os⟩) (ox := ox) (od := od) X I hm ?_)))
  refine wpAny_pure ?_
  show wpAny _ _ (handedOut (.ref D)) _ _ _
  rw [handedOut_of (v := .ref D) rfl]
  first
    | exact wpAny_pure (wpAny_pure h)
    | exact wpAny_pure h
    | exact wpAny_pure (wpAny_bind (wpAny_pure (wpAny_pure h)))
theorem hx_kitx (hga : findIn K (.ref D) "__getattribute__" = some (some (.builtin "BaseException.__getattribute__"))) (hgt : findIn K (.ref D) "__getattr__" = some none) (hsub : subIn K (.ref D) (.type "BaseException") = some true) (hdct : hasDictIn K D = true) (ha : findIn K (.ref D) "__class__" = some (some (.builtin "object.__class__")))
    (hn : specialIn K (.builtin "object.__class__") "__get__" = some (some (.builtin "getset_descriptor.__get__"))) (htk : takesIn K (.builtin "object.__class__") = some true) (hm : mroIn K D (.type "object") = some true) :
    KitX K (.ref x) (.ref D) (fun h => InstAt h x ox D od) where
  ty := fun _ _ _ I => I.type
  it := fun _ _ X _ => by
    obtain ⟨cdD, hcD, _⟩ := any_some hdct
    unfold clsIn at hcD
    split at hcD
    · rename_i c' d' cd' sl' ho
      intro A' Q' E' s' k q
      unfold isType loadHead
      exact wpAny_bind (wpAny_loadPart (k _ _ (X _ _ ho)) (wpAny_pure q))
    · cases hcD
  ne := fun h tp dd its n sl X htp => by
    obtain ⟨cdD, hcD, _⟩ := any_some hdct
    refine Bool.eq_false_iff.mpr fun q => ?_
    have e : D = tp := Value.ref.inj (beq_iff_eq.mp q)
    subst e
    unfold clsIn at hcD
    split at hcD
    · rename_i c' d' cd' sl' ho
      have z := (X _ _ ho).symm.trans htp
      cases z
    · cases hcD
  ca := fun X I k => hx_classE hga hgt hsub hdct ha hn htk hm X I k
end
end PySem.W
namespace HX
open PySem PySem.Spec PyProof.Rows L2
/-! ### an error that is tracked -/
/-- at a: an instance of the error class at C, with the dict d -/
def ExAt (H : Hp) (a C : Addr) (d : Option Addr) : Prop := ∃ φ : Heap → Prop, H a = some (.ext φ) ∧ ∀ h, φ h → ∃ (oe : Obj) (vs : Array Value), h.get? a = some oe ∧ oe.cls = .ref C ∧ oe.dict = d ∧ oe.data = .fields vs
/-- at d: the fields of such -/
def XdAt (H : Hp) (d : Addr) (fs : List (Str × V)) : Prop := H d = some (.xd fs) ∨ H d = some (exd d fs)
theorem exAt_exo {H : Hp} {a C : Addr} {d : Option Addr} (h : H a = some (exo a C d)) : ExAt H a C d := ⟨_, h, fun _ ⟨_, e⟩ => ⟨_, _, e, rfl, rfl, rfl⟩⟩
theorem ExAt.mono {H H' : Hp} {a C : Addr} {d : Option Addr} (e : ∀ a o, H a = some o → H' a = some o) (h : ExAt H a C d) : ExAt H' a C d := by
  obtain ⟨φ, h1, h2⟩ := h
  exact ⟨φ, e _ _ h1, h2⟩
theorem XdAt.mono {H H' : Hp} {d : Addr} {fs : List (Str × V)} (e : ∀ a o, H a = some o → H' a = some o) (h : XdAt H d fs) : XdAt H' d fs := h.imp (e _ _) (e _ _)
/-- what the written part says of an error class, for isinstance and fields -/
structure ErrC (K : PySem.W.Frag) (D : Addr) : Prop where
  hg : PySem.W.findIn K (.ref D) "__getattribute__" = some (some (.builtin "BaseException.__getattribute__"))
  hk : PySem.W.findIn K (.ref D) "__getattr__" = some none
  hs : PySem.W.subIn K (.ref D) (.type "BaseException") = some true
  hd : PySem.W.hasDictIn K D = true
  ha : PySem.W.findIn K (.ref D) "__class__" = some (some (.builtin "object.__class__"))
  hn : PySem.W.specialIn K (.builtin "object.__class__") "__get__" = some (some (.builtin "getset_descriptor.__get__"))
  ht : PySem.W.takesIn K (.builtin "object.__class__") = some true
  hm : PySem.W.mroIn K D (.type "object") = some true
section
variable {X : Cx} {pins : List (Addr × Obj)} {σ : L2.St} {H : Hp} {s : Shared}
theorem ExAt.inst (I : Inv X pins σ H s) {a C : Addr} (h : ExAt H a C none) : ∃ ox, PySem.W.InstAt s.heap a ox C none := by
  obtain ⟨φ, h1, h2⟩ := h
  have q : ObjOk X.prog X.w H s.heap a (.ext φ) := I.hok a _ h1
  obtain ⟨oe, vs, e, ec, ed, ef⟩ := h2 _ q.1
  obtain ⟨oc, od, oda, osl⟩ := oe
  dsimp only at ec ed ef
  subst ec ed ef
  exact ⟨_, e, rfl, rfl, trivial⟩
theorem ExAt.instD (I : Inv X pins σ H s) {a C d : Addr} {fs : List (Str × V)} (h : ExAt H a C (some d)) (hd : XdAt H d fs) : ∃ (ox od : Obj) (mA : Str → Option Value), PySem.W.InstAt s.heap a ox C (some od) ∧ (∀ name, PySem.W.lookIn name od = some (mA name)) ∧ ∀ f, RelO (fs.lookup f) (mA f) := by
  obtain ⟨φ, h1, h2⟩ := h
  have q : ObjOk X.prog X.w H s.heap a (.ext φ) := I.hok a _ h1
  obtain ⟨oe, vs, e, ec, ed, ef⟩ := h2 _ q.1
  obtain ⟨mA, hns, hr⟩ : ∃ mA, s.heap.Ns1 d mA ∧ ∀ f, RelO (fs.lookup f) (mA f) := by
    rcases hd with hd | hd
    · have z : ObjOk X.prog X.w H s.heap d (.xd fs) := I.hok d _ hd
      exact z
    · exact exd_at I.hok hd
  obtain ⟨od, ho, hl⟩ := lookIn_ns hns
  obtain ⟨oc, odd, oda, osl⟩ := oe
  dsimp only at ec ed ef
  subst ec ed ef
  exact ⟨_, od, mA, ⟨e, rfl, rfl, ho⟩, hl, hr⟩
/-- isinstance(e, c), e a tracked error -/
def rIsX (K : PySem.W.Frag) : List V → Hp → VK → Prop := fun xs H Q => ∃ (a C : Addr) (d : Option Addr) (fs : List (Str × V)) (c : V) (cv : Value) (b : Bool), xs = [.ref a, c] ∧ ExAt H a C d ∧ (∀ dd, d = some dd → XdAt H dd fs) ∧ ErrC K C ∧ (∀ u, RelV c u → u = cv) ∧ PySem.W.kitOne K (.ref C) cv = some b ∧ Q (.bl b) H
theorem call_isX : CallR X (.builtin "isinstance") (rIsX X.K) := by
  intro pins s σ H xs us Q I r h
  obtain ⟨a, C, d, fs, c, cv, b, rfl, hx, hd, T, hcv, e, q⟩ := h
  cases r with
  | cons rx rr =>
    cases rr with
    | cons rt rr =>
      cases rr
      cases rx
      have ec := hcv _ rt
      subst ec
      obtain ⟨ox, od, J⟩ : ∃ ox od, PySem.W.InstAt s.heap a ox C od := by
        cases d with
        | none =>
          obtain ⟨ox, J⟩ := ExAt.inst I hx
          exact ⟨ox, none, J⟩
        | some dd =>
          obtain ⟨ox, od, _, J, _⟩ := ExAt.instD I hx (hd dd rfl)
          exact ⟨ox, some od, J⟩
      exact PySem.W.kia_one (PySem.W.hx_kitx T.hg T.hk T.hs T.hd T.ha T.hn T.ht T.hm) I.kIn J e (fun z => nomatch z) fun tk => ⟨.bl b, H, I.kept (t' := tk) fun _ _ z => z, rfl, q⟩
/-- e.f, e a tracked error with a dict -/
def tEf (K : PySem.W.Frag) (f : Str) (te : TE) : TE := fun σ H Q => te σ H fun x H1 => ∃ (a C d : Addr) (fs : List (Str × V)) (v : V), x = .ref a ∧ ExAt H1 a C (some d) ∧ XdAt H1 d fs ∧ ErrC K C ∧ PySem.W.findIn K (.ref C) f = some none ∧ fs.lookup f = some v ∧ Q v H1
theorem pe_ef {e : Expr} {te : TE} {pos : Pos} {f : Str} (he : PE X e te) (hb : attributeBase e f X.env (eval e X.env) = eval e X.env := by rfl) : PE X (.Attribute e f pos) (tEf X.K f te) := by
  refine ⟨fun pins s σ H Q I h => ?_⟩
  refine attr_of hb (thn (he.run pins s σ H _ I h) fun u s1 hh => ?_)
  obtain ⟨x, H1, I1, rx, a, C, d, fs, v, ex, hx, hd, T, hno, l, q⟩ := hh
  subst ex
  obtain rfl : u = Value.ref a := rx
  obtain ⟨ox, od, mA, J, hl, hr⟩ := ExAt.instD I1 hx hd
  obtain ⟨w', hw, rw'⟩ := RelO.some_of (v := v) (o := mA f) (by rw [← l]; exact hr f)
  exact HandSPX.exc_get I1.kIn J T.hg T.hk T.hs (PySem.W.findObj_own T.hd hno rfl (by rw [hl, hw])) (handed_of rw') ⟨v, H1, I1.tok _, rw', q⟩
/-! ### making one as a value -/
/-- C(e, ..) as a value: the new error stays tracked -/
def tMkV (C : Addr) (sp : Sp) (ta : TA) : TE := fun σ H Q => ta σ H fun vs H1 => vs.length ≤ 1000 ∧ ∀ a, H1 a = none → sp (.ref a :: vs) (upd H1 a (exo a C none)) (fun v H2 => v = .non ∧ Q (.ref a) H2) (fun _ _ _ => False)
theorem mkv_call {CX : CXT} {C fI : Addr} {k : Nat} {fd : FuncData} {ps : List Str} {sp : Sp} (T : OexC X.K C) (iC : PySem.W.findIn X.K (.ref C) "__init__" = some (some (.ref fI))) (tI : PySem.W.typeIn X.K (.ref fI) = some (.type "function"))
    (F1 : FnOk X.prog X.w X.K X.mg X.base CX k fI fd ps sp) (hr : Room (k + 1) X.A) (hb : Binds X.K fd ps []) (hx : Passes CX X (fun _ _ _ => False)) {us : List Value} {vs : List V} {s1 : Shared} {H1 : Hp} {Q : VK} (I1 : Inv X pins σ H1 s1) (r1 : Vals vs us) (hz : vs.length ≤ 1000)
    (q1 : ∀ a, H1 a = none → sp (.ref a :: vs) (upd H1 a (exo a C none)) (fun v H2 => v = .non ∧ Q (.ref a) H2) (fun _ _ _ => False)) :
    wpAny (model X.prog X.w) X.A (call (.ref C) us) (EP X pins σ Q) X.xe s1 := by
  obtain ⟨nm, q, N, bs, bm, sn, sub, ab, col, dd, k0, k1, k2, k3, k5, hC, hbm⟩ := T.cls
  obtain ⟨hp, g, dr, tk, os⟩ := s1
  have hsz : hp.objs.size ≤ hp.objs.size + 1 := Nat.le_succ _
  have hn : H1 (hp.objs.size + 1) = none := I1.hok.fresh hsz
  have hq := q1 (hp.objs.size + 1) hn
  have kk : ∀ b o, hp.get? b = some o → ((hp.push (PySem.W.kdv_tup us)).push (PySem.HandSPX.excO C hp.objs.size)).get? b = some o := fun b o e => Heap.get?_push_of_some _ (Heap.get?_push_of_some _ e)
  have hget : ((hp.push (PySem.W.kdv_tup us)).push (PySem.HandSPX.excO C hp.objs.size)).get? (hp.objs.size + 1) = some (PySem.HandSPX.excO C hp.objs.size) := by heap_get
  have I2 : Inv X pins σ (upd H1 (hp.objs.size + 1) (exo (hp.objs.size + 1) C none)) ⟨(hp.push (PySem.W.kdv_tup us)).push (PySem.HandSPX.excO C hp.objs.size), g, dr, tk, os⟩ :=
    I1.laid (t' := tk) (a := hp.objs.size + 1) (o := exo (hp.objs.size + 1) C none) (h' := (hp.push (PySem.W.kdv_tup us)).push (PySem.HandSPX.excO C hp.objs.size)) kk hsz (exo_ok hget)
  have r2 : Vals (V.ref (hp.objs.size + 1) :: vs) (Value.ref (hp.objs.size + 1) :: us) := .cons rfl r1
  have hl : (Value.ref (hp.objs.size + 1) :: us).length = ps.length := by
    have e := r2.length
    rw [F1.len _ _ _ _ hq] at e
    exact e.symm
  have hus : us.length ≤ sizeLine := by
    rw [← Paired.length r1, sizeLine_eq]
    omega
  have hbb := hb ⟨(hp.push (PySem.W.kdv_tup us)).push (PySem.HandSPX.excO C hp.objs.size), g, dr, tk, os⟩ (Value.ref (hp.objs.size + 1) :: us) I2.kIn (by rw [List.append_nil]; exact hl)
  rw [List.append_nil] at hbb
  refine wpAny_call (PySem.HandSPX.call_own F.excBase_ValueError (fun Y => PySem.HandSPX.refsVE_contains Y bm hbm) (I1.kIn _ _ hC) (PySem.W.looks_findIn I1.kIn iC) (fun self => PySem.W.bind_fn I1.kIn self tI) hus
    (codeAny_mono (F1.run _ X.stack _ _ ⟨Value.ref (hp.objs.size + 1) :: us, []⟩ (Value.ref (hp.objs.size + 1) :: us) _ _ (fun _ _ _ => False) (hr.make C us []) (I2.env0.make C us []) hbb r2 hq) fun r s' hq' => ?_))
  cases r with
  | error er => exact hx pins σ _ _ er s' I2 hq'
  | ok fl =>
    cases fl with
    | ret u =>
      have J := I2.after (Q := fun v H2 => v = .non ∧ Q (.ref (hp.objs.size + 1)) H2) (u := u) hq'
      obtain ⟨v, H2, J, rv, ev, q2⟩ := J
      subst ev
      exact ⟨rv, .ref (hp.objs.size + 1), H2, J, rfl, q2⟩
    | next => exact False.elim hq'
    | brk => exact False.elim hq'
    | cont => exact False.elim hq'
variable {CX : CXT} {x : Str} {C fI : Addr} {k : Nat} {fd : FuncData} {ps : List Str} {sp : Sp} {e : Expr} {es : List Expr} {ta : TA} {p pos : Pos}
theorem pe_mkV (T : OexC X.K C) (iC : PySem.W.findIn X.K (.ref C) "__init__" = some (some (.ref fI))) (tI : PySem.W.typeIn X.K (.ref fI) = some (.type "function"))
    (F1 : FnOk X.prog X.w X.K X.mg X.base CX k fI fd ps sp) (hr : Room (k + 1) X.A) (hb : Binds X.K fd ps []) (hx : Passes CX X (fun _ _ _ => False)) (hm : X.mg x = some (.ref C)) (ha : PA X (e :: es) ta) (hg : Gl X x := by rfl)
    (hdb : (x == ("__debug__" : Str)) = false := by decide) (he : starEach (e :: es) X.env = (false, eval e X.env) :: starEach es X.env := by rfl) (hpl : (backTo pos (starEach es X.env)).any (·.1) = false := by rfl) :
    PE X (.Call (.Name x p) (e :: es) [] pos) (tMkV C sp ta) := by
  refine ⟨fun pins s σ H Q I h => ?_⟩
  refine wpAny_Call_Name_kw (ld_glob I hg hm ?_ hdb)
  refine PySem.W.callWith_K (h₀ := X.base) I.ok.mod.kin T.kC (thn (ha.run pos pins s σ H _ I h) fun us s1 ⟨vs, H1, I1, r1, hz, q1⟩ => ⟨I1.kIn, ?_⟩) he hpl
  exact mkv_call T iC tI F1 hr hb hx I1 r1 hz q1
theorem pe_mkV0 (T : OexC X.K C) (iC : PySem.W.findIn X.K (.ref C) "__init__" = some (some (.ref fI))) (tI : PySem.W.typeIn X.K (.ref fI) = some (.type "function"))
    (F1 : FnOk X.prog X.w X.K X.mg X.base CX k fI fd ps sp) (hr : Room (k + 1) X.A) (hb : Binds X.K fd ps []) (hx : Passes CX X (fun _ _ _ => False)) (hm : X.mg x = some (.ref C)) (hg : Gl X x := by rfl)
    (hdb : (x == ("__debug__" : Str)) = false := by decide) : PE X (.Call (.Name x p) [] [] pos) (tMkV C sp tNil) := by
  refine ⟨fun pins s σ H Q I h => ?_⟩
  refine wpAny_Call_Name_kw (ld_glob I hg hm ?_ hdb)
  exact PySem.W.callWith_K0 I.kIn T.kC (mkv_call (us := []) (vs := []) T iC tI F1 hr hb hx I .nil (Nat.zero_le _) h.2)
end
end HX
namespace HX
open PySem PySem.Spec PyProof.Rows L2
section
variable {X : Cx} {pins : List (Addr × Obj)} {σ : L2.St} {H : Hp} {s : Shared}
/-- an error that was made goes out of what is tracked (its dict stays) -/
theorem mkx_end {H1 H2 : Hp} {Q : XK} {hp hp2 h2 : Heap} {g1 g2 : Array GenState} {d1 d2 : Drawn} {t1 t2 : Nat} {os1 os2 : OsState} {a C : Addr} {d : Option Addr} (T : Raises X (.ref C)) (I1 : Inv X pins σ H1 ⟨hp, g1, d1, t1, os1⟩)
    (ha : hp.objs.size ≤ a) (k : ∀ b o, hp.get? b = some o → hp2.get? b = some o) (un : Un (frs X.stack) [] (upd H1 a (exo a C none)) H2 hp2 h2) (hok : HOk X.prog X.w H2 h2) (ho : os2 = os1) (hb : AllBare g2)
    (ea : H2 a = some (exo a C d)) (q : Q (.ref C) d (del H2 a)) : MkP X pins σ Q (.ref a) ⟨h2, g2, d2, t2, os2⟩ := by
  obtain ⟨t0, hoe⟩ := exo_at hok ea
  have hn : H1 a = none := I1.hok.fresh ha
  obtain ⟨G, g1', g2'⟩ := restrict h2 fun b => decide (b ≠ a)
  have gk : ∀ b, b ≠ a → G.get? b = h2.get? b := fun b hb => g1' b (decide_eq_true hb)
  have ge : G.get? a = none := g2' a (by simp)
  have nha : ∀ {b : Addr} {o : Obj}, hp.get? b = some o → b ≠ a := fun {b o} z => Nat.ne_of_lt (Nat.lt_of_lt_of_le (Heap.lt_size z) ha)
  have up : ∀ {b : Addr}, b ≠ a → H1 b = none → upd H1 a (exo a C none) b = none := fun {b} hb n => by rw [upd_ne hb]; exact n
  have U : Un (frs X.stack) [] H1 (del H2 a) hp G := {
    keep := fun b o z n hf hx => by
      rw [gk b (nha z)]
      exact un.keep b o (k b o z) (up (nha z) n) hf hx
    slot := fun b o z n hf hx => by
      rw [gk b (nha z)]
      exact un.slot b o (k b o z) (up (nha z) n) hf hx
    free := fun b o z n hx => by
      rw [del_ne (nha z)]
      exact un.free b o (k b o z) (up (nha z) n) hx
    there := fun b o z hx => by
      rw [gk b (nha z)]
      exact un.there b o (k b o z) hx
    tups := fun b xs z => by
      rw [del_ne (ne_of_none z hn)]
      exact un.tups b xs (by rw [upd_ne (ne_of_none z hn)]; exact z)
    frzs := fun b o v z => by
      rw [del_ne (ne_of_none z hn)]
      exact un.frzs b o v (by rw [upd_ne (ne_of_none z hn)]; exact z)
    tbls := fun b ps z => by
      rw [del_ne (ne_of_none z hn)]
      exact un.tbls b ps (by rw [upd_ne (ne_of_none z hn)]; exact z) }
  have hok3 : HOk X.prog X.w (del H2 a) G := fun b o z => by
    have hba : b ≠ a := fun e => by
      rw [e, del_same] at z
      cases z
    rw [del_ne hba] at z
    have noa : ∀ {c : Addr}, H2 c = some (.own b) → c ≠ a := fun {c} hc => at_ne ea hc exo_own
    exact (hok b o z).stay (fun c v hc y => by
        have hca : c ≠ a := by
          rcases hc with hc | hc
          · rw [hc]
            exact hba
          · exact noa hc
        rw [gk c hca]
        exact y)
      (fun c hc => by rw [del_ne (noa hc)]; exact hc) (fun c xs hc => by rw [del_ne (at_ne ea hc exo_tup)]; exact hc)
  have J : Inv X pins σ (del H2 a) ⟨G, g2, d2, t2, os2⟩ := I1.call' (ch := []) ho U hok3 hb (fun b z => absurd z (by simp))
  refine ⟨a, _, _, ⟨G, g2, d2, t2, os2⟩, _, .ref C, d, rfl, J, fun b o z => ?_, ge, hoe, ⟨rfl, rfl⟩, rfl, rfl, del_same, rfl, hb, T, q⟩
  by_cases hba : b = a
  · rw [hba, ge] at z
    cases z
  · exact (gk b hba).symm.trans z
/-- C(e, ..) in a raise -/
def tMkX (C : Addr) (sp : Sp) (ta : TA) : L2.St → Hp → XK → Prop := fun σ H Q => ta σ H fun vs H1 => vs.length ≤ 1000 ∧ ∀ a, H1 a = none → sp (.ref a :: vs) (upd H1 a (exo a C none))
  (fun v H2 => v = .non ∧ ∃ d, H2 a = some (exo a C d) ∧ Q (.ref C) d (del H2 a)) (fun _ _ _ => False)
theorem mkx_call {CX : CXT} {C fI : Addr} {k : Nat} {fd : FuncData} {ps : List Str} {sp : Sp} (T : OexC X.K C) (iC : PySem.W.findIn X.K (.ref C) "__init__" = some (some (.ref fI))) (tI : PySem.W.typeIn X.K (.ref fI) = some (.type "function"))
    (F1 : FnOk X.prog X.w X.K X.mg X.base CX k fI fd ps sp) (hr : Room (k + 1) X.A) (hb : Binds X.K fd ps []) (hx : Passes CX X (fun _ _ _ => False)) {us : List Value} {vs : List V} {s1 : Shared} {H1 : Hp} {Q : XK} (I1 : Inv X pins σ H1 s1) (r1 : Vals vs us) (hz : vs.length ≤ 1000)
    (q1 : ∀ a, H1 a = none → sp (.ref a :: vs) (upd H1 a (exo a C none)) (fun v H2 => v = .non ∧ ∃ d, H2 a = some (exo a C d) ∧ Q (.ref C) d (del H2 a)) (fun _ _ _ => False)) :
    wpAny (model X.prog X.w) X.A (call (.ref C) us) (MkP X pins σ Q) X.xe s1 := by
  obtain ⟨nm, q, N, bs, bm, sn, sub, ab, col, dd, k0, k1, k2, k3, k5, hC, hbm⟩ := T.cls
  obtain ⟨hp, g, dr, tk, os⟩ := s1
  have hsz : hp.objs.size ≤ hp.objs.size + 1 := Nat.le_succ _
  have hn : H1 (hp.objs.size + 1) = none := I1.hok.fresh hsz
  have hq := q1 (hp.objs.size + 1) hn
  have kk : ∀ b o, hp.get? b = some o → ((hp.push (PySem.W.kdv_tup us)).push (PySem.HandSPX.excO C hp.objs.size)).get? b = some o := fun b o e => Heap.get?_push_of_some _ (Heap.get?_push_of_some _ e)
  have hget : ((hp.push (PySem.W.kdv_tup us)).push (PySem.HandSPX.excO C hp.objs.size)).get? (hp.objs.size + 1) = some (PySem.HandSPX.excO C hp.objs.size) := by heap_get
  have I2 : Inv X pins σ (upd H1 (hp.objs.size + 1) (exo (hp.objs.size + 1) C none)) ⟨(hp.push (PySem.W.kdv_tup us)).push (PySem.HandSPX.excO C hp.objs.size), g, dr, tk, os⟩ :=
    I1.laid (t' := tk) (a := hp.objs.size + 1) (o := exo (hp.objs.size + 1) C none) (h' := (hp.push (PySem.W.kdv_tup us)).push (PySem.HandSPX.excO C hp.objs.size)) kk hsz (exo_ok hget)
  have r2 : Vals (V.ref (hp.objs.size + 1) :: vs) (Value.ref (hp.objs.size + 1) :: us) := .cons rfl r1
  have hl : (Value.ref (hp.objs.size + 1) :: us).length = ps.length := by
    have e := r2.length
    rw [F1.len _ _ _ _ hq] at e
    exact e.symm
  have hus : us.length ≤ sizeLine := by
    rw [← Paired.length r1, sizeLine_eq]
    omega
  have hbb := hb ⟨(hp.push (PySem.W.kdv_tup us)).push (PySem.HandSPX.excO C hp.objs.size), g, dr, tk, os⟩ (Value.ref (hp.objs.size + 1) :: us) I2.kIn (by rw [List.append_nil]; exact hl)
  rw [List.append_nil] at hbb
  refine wpAny_call (PySem.HandSPX.call_own F.excBase_ValueError (fun Y => PySem.HandSPX.refsVE_contains Y bm hbm) (I1.kIn _ _ hC) (PySem.W.looks_findIn I1.kIn iC) (fun self => PySem.W.bind_fn I1.kIn self tI) hus
    (codeAny_mono (F1.run _ X.stack _ _ ⟨Value.ref (hp.objs.size + 1) :: us, []⟩ (Value.ref (hp.objs.size + 1) :: us) _ _ (fun _ _ _ => False) (hr.make C us []) (I2.env0.make C us []) hbb r2 hq) fun r s' hq' => ?_))
  cases r with
  | error er => exact hx pins σ _ _ er s' I2 hq'
  | ok fl =>
    cases fl with
    | ret u =>
      obtain ⟨v, H2, os2, bare2, un2, hok2, rv, ev, d, ea, q2⟩ := hq'
      subst ev
      obtain ⟨h2, g2, d2, t2, os'⟩ := s'
      exact ⟨rv, mkx_end (raises_own T.exC T.tyC) I1 hsz kk un2 hok2 os2 bare2 ea q2⟩
    | next => exact False.elim hq'
    | brk => exact False.elim hq'
    | cont => exact False.elim hq'
variable {CX : CXT} {x : Str} {C fI : Addr} {k : Nat} {fd : FuncData} {ps : List Str} {sp : Sp} {e : Expr} {es : List Expr} {ta : TA} {p pos : Pos}
theorem pmk_x (T : OexC X.K C) (iC : PySem.W.findIn X.K (.ref C) "__init__" = some (some (.ref fI))) (tI : PySem.W.typeIn X.K (.ref fI) = some (.type "function"))
    (F1 : FnOk X.prog X.w X.K X.mg X.base CX k fI fd ps sp) (hr : Room (k + 1) X.A) (hb : Binds X.K fd ps []) (hx : Passes CX X (fun _ _ _ => False)) (hm : X.mg x = some (.ref C)) (ha : PA X (e :: es) ta) (hg : Gl X x := by rfl)
    (hdb : (x == ("__debug__" : Str)) = false := by decide) (he : starEach (e :: es) X.env = (false, eval e X.env) :: starEach es X.env := by rfl) (hpl : (backTo pos (starEach es X.env)).any (·.1) = false := by rfl) :
    PMk X (.Call (.Name x p) (e :: es) [] pos) (tMkX C sp ta) := by
  intro pins s σ H Q I h
  refine wpAny_Call_Name_kw (ld_glob I hg hm ?_ hdb)
  refine PySem.W.callWith_K (h₀ := X.base) I.ok.mod.kin T.kC (thn (ha.run pos pins s σ H _ I h) fun us s1 ⟨vs, H1, I1, r1, hz, q1⟩ => ⟨I1.kIn, ?_⟩) he hpl
  exact mkx_call T iC tI F1 hr hb hx I1 r1 hz q1
theorem pmk_x0 (T : OexC X.K C) (iC : PySem.W.findIn X.K (.ref C) "__init__" = some (some (.ref fI))) (tI : PySem.W.typeIn X.K (.ref fI) = some (.type "function"))
    (F1 : FnOk X.prog X.w X.K X.mg X.base CX k fI fd ps sp) (hr : Room (k + 1) X.A) (hb : Binds X.K fd ps []) (hx : Passes CX X (fun _ _ _ => False)) (hm : X.mg x = some (.ref C)) (hg : Gl X x := by rfl)
    (hdb : (x == ("__debug__" : Str)) = false := by decide) : PMk X (.Call (.Name x p) [] [] pos) (tMkX C sp tNil) := by
  intro pins s σ H Q I h
  refine wpAny_Call_Name_kw (ld_glob I hg hm ?_ hdb)
  exact PySem.W.callWith_K0 I.kIn T.kC (mkx_call (us := []) (vs := []) T iC tI F1 hr hb hx I .nil (Nat.zero_le _) h.2)
end
/-! ### the suite of an except clause, the error tracked -/
section
variable {X : Cx} {pins : List (Addr × Obj)} {σ : L2.St} {H : Hp} {s : Shared}
/-- at a: what is known of a caught error -/
def exF (a : Addr) (cls : Value) (d : Option Addr) : HO := .ext fun h => ∃ (oe : Obj) (vs : Array Value), h.get? a = some oe ∧ oe.cls = cls ∧ oe.dict = d ∧ oe.data = .fields vs
theorem exAt_exF {H : Hp} {a C : Addr} {d : Option Addr} (h : H a = some (exF a (.ref C) d)) : ExAt H a C d := ⟨_, h, fun _ z => z⟩
theorem inv_suiteT (I : Inv X pins σ H s) (a : Addr) : Inv (X.suite a (X.pn ++ pins)) [] σ H s :=
  ⟨I.ok.suite _ _, I.os, I.bare, I.base, I.loc, I.cell, I.free, I.freeC, fun p hp => I.pin p (by rw [List.append_nil] at hp; exact hp), I.hok, I.len⟩
theorem inv_unsuiteT {a : Addr} {pn' : List (Addr × Obj)} (I : Inv (X.suite a (X.pn ++ pins)) pn' σ H s) (ok : X.Ok) : Inv X pins σ H s :=
  ⟨ok, I.os, I.bare, I.base, I.loc, I.cell, I.free, I.freeC, fun p hp => I.pin p (List.mem_append_left _ hp), I.hok, I.len⟩
/-- a known object that stood not at the entry is tracked -/
theorem inv_track (I : Inv X pins σ H s) {a : Addr} {cls : Value} {d : Option Addr} {oe : Obj} {vs : Array Value} (n0 : X.s_0.heap.get? a = none) (ha : s.heap.get? a = some oe) (hz : Zc cls d oe) (hd : oe.data = .fields vs) (na : H a = none) (nL : a ≠ X.env.locals)
    (np : ∀ p ∈ X.pn ++ pins, p.1 ≠ a) : Inv X pins σ (upd H a (exF a cls d)) s := by
  have new : ObjOk X.prog X.w (upd H a (exF a cls d)) s.heap a (exF a cls d) := ⟨⟨oe, vs, ha, hz.1, hz.2, hd⟩, ⟨oe, ha⟩, fun h1 h2 ⟨o, v, q, r⟩ k => ⟨o, v, k o q, r⟩⟩
  have ne0 : ∀ b o, X.s_0.heap.get? b = some o → b ≠ a := fun b o e z => by
    rw [z, n0] at e
    cases e
  refine ⟨I.ok, I.os, I.bare, ⟨I.base.keep, I.base.slot, fun b o e n hx => ?_, I.base.there, fun b xs e => ?_, fun b o u e => ?_, fun b ps e => ?_⟩, I.loc, I.cell, ?_, fun y c e => ?_, fun p hp => ?_, fun b u e => ?_, I.len⟩
  · rw [upd_ne (ne0 b o e)]
    exact I.base.free b o e n hx
  · have q := I.base.tups b xs e
    rw [upd_ne (ne_of_none q na)]
    exact q
  · have q := I.base.frzs b o u e
    rw [upd_ne (ne_of_none q na)]
    exact q
  · obtain ⟨m, q⟩ := I.base.tbls b ps e
    exact ⟨m, by rw [upd_ne (ne_of_none q na)]; exact q⟩
  · rw [upd_ne (Ne.symm nL)]
    exact I.free
  · have hc : c ≠ a := fun z => by
      obtain ⟨v, o, q, r⟩ := I.cell y c e
      rw [z, ha] at q
      cases q
      rw [hd] at r
      cases r
    rw [upd_ne hc]
    exact I.freeC y c e
  · obtain ⟨e, n, ne, nf, dd⟩ := I.pin p hp
    exact ⟨e, by rw [upd_ne (np p hp)]; exact n, ne, nf, dd⟩
  · by_cases hb : b = a
    · subst hb
      rw [upd_same] at e
      cases e
      exact new
    · rw [upd_ne hb] at e
      exact (I.hok b u e).stay (fun c v _ q => q) (fun c q => by rw [upd_ne (ne_of_none q na)]; exact q) fun c xs q => by rw [upd_ne (ne_of_none q na)]; exact q
end
/-- what 'except x as n' wishes: the error stays tracked -/
def wAsT (K : PySem.W.Frag) (c : Value) (i : Nat) (ts : TS) (Wout : WX) (D : Ends) : WX := fun cls d σ H =>
  ∃ b, PySem.W.exmOne K cls c = some b ∧ (b = true → ∀ a, H a = none → ts { nx := fun σ' H' => D.nx (σ'.set i none) H', rt := D.rt, bk := fun σ' H' => D.bk (σ'.set i none) H', ct := fun σ' H' => D.ct (σ'.set i none) H' } (σ.set i (some (.ref a))) (upd H a (exF a cls d))) ∧
    (b = false → Wout cls d σ H)
section
variable {X : Cx} {x n : Str} {c : Value} {i : Nat} {body suite : List Stmt} {b₀ : Stmt} {np pos pos' : Pos} {tb : WX → TS} {ts : TS} {Wout : WX}
theorem ps_tryT (hs : X.stack = X.env :: X.outer) (hf : X.env.frame = some X.env.locals) (hex : X.ex = []) (hN : X.N.Nodup) (hi : X.N[i]? = some n) (hln : X.env.kindOf n = some .local) (hc : Names X x c) (tk : Takes X Wout)
    (hb : ∀ (W : WX) (pn : List (Addr × Obj)) (xe : Value → Shared → Prop), Takes (X.tr pn xe) W → PassesOwn (model X.prog X.w) X.A X.env xe → PSs (X.tr pn xe) body (tb W))
    (hsu : ∀ (a : Addr) (pn : List (Addr × Obj)), PSs (X.suite a pn) (b₀ :: suite) ts) :
    PS X (.Try body [.ExceptHandler (some (.Name x np)) (some n) (b₀ :: suite) pos'] [] [] pos) (fun D σ H => tb (wAsT X.K c i ts Wout D) D σ H) := by
  refine ⟨fun pins s σ H D I h => ?_⟩
  have ok := I.ok
  have hfr : X.A.frames = some (X.env :: X.outer) := by rw [ok.frames, hs]
  have hloc : Loc X.env.scope n := .inl hln
  refine wpAny_Try_except ?_
  refine wpAny_mono ((hb (wAsT X.K c i ts Wout D) (X.pn ++ pins) (fun e s₁ => wpAny (model X.prog X.w) X.A (noteFrame e X.env) (fun _ s₂ => wpAny (model X.prog X.w) X.A (setFlight e none) (fun _ s₃ =>
    wpAny (model X.prog X.w) X.A (handleBy e X.env [.ExceptHandler (some (.Name x np)) (some n) (b₀ :: suite) pos']) (SP X pins D) X.xe s₃) X.xe s₂) X.xe s₁) (fun u s' xx => ?_) PassesOwn.looking).run [] s σ H D (I.toTry _) h) (fun f s1 hsp => ?_) (fun e s1 he => he)
  · -- the catch
    obtain ⟨a, B, sI, pins', σ', H', cls, d, rfl, J', nb, up, sky, na, os, ag, b, hb1, hyes, hno⟩ := xx
    have J : Inv X pins σ' H' sI := J'.ofTry ok
    have sky' : Sky B (X.env :: X.outer) a (Zc cls d) X.env.locals s'.heap := by rw [← hs]; exact sky
    show wpAny (model X.prog X.w) X.A (noteFrame (.ref a) X.env) _ _ _
    refine Sky.land Zc.steady hfr hf sky' fun h3 fl3 up3 => ?_
    have J3 : Inv X pins σ' H' { s' with heap := h3 } := J.landed nb fl3.1 (up.trans up3) os ag
    obtain ⟨oe3, vs3, he3, hz3, hd3⟩ := fl3.there
    have notFr : ∀ {h : Heap} {o : Obj} {vs : Array Value}, h.FunFrames B (X.env :: X.outer) → h.get? a = some o → o.data = .fields vs → a ∉ frs (X.env :: X.outer) := fun {h o vs} ff e dd hm => by
      obtain ⟨_, o', e', hnf⟩ := ff.mem hm
      rw [e] at e'; cases e'
      exact hnf _ dd
    have nfr := notFr fl3.2.2.1 he3 hd3
    have nL : a ≠ X.env.locals := fun z => nfr (List.mem_filterMap.mpr ⟨X.env, List.mem_cons_self, by rw [hf, z]⟩)
    have nF : a ∉ X.fs := fun hm => by
      obtain ⟨e, he, q⟩ := List.mem_filterMap.mp hm
      exact nfr (List.mem_filterMap.mpr ⟨e, List.mem_cons_of_mem _ he, q⟩)
    have nI : sI.heap.get? a = none := by
      cases e : sI.heap.get? a with
      | none => rfl
      | some o =>
        have q := nb a o e (by rw [hs]; exact nfr)
        rw [fl3.2.1] at q
        cases q
    have n0 : X.s_0.heap.get? a = none := by
      cases e : X.s_0.heap.get? a with
      | none => rfl
      | some o =>
        obtain ⟨o', q⟩ := J.base.there a o e (by rw [hex]; exact fun z => nomatch z)
        rw [nI] at q
        cases q
    have np' : ∀ p ∈ X.pn ++ pins, p.1 ≠ a := fun p hp z => by
      have q := (J.pin p hp).1
      rw [z, nI] at q
      cases q
    have S3 := J3.suite he3 hd3 na nL nF
    refine wpAny_handleBy_cons (codeAny_handlers_test ?_) (by intro q; cases q)
    have LT : PySem.W.Looks (model X.prog X.w) h3 (typeOf (.ref a)) cls := fun A Q E s k q => wpAny_typeOf_ref (k _ _ he3) (by rw [hz3.1]; exact q)
    have LM := PySem.W.exm_one (M := model X.prog X.w) (J3.kIn) LT hb1
    have test : ∀ {Q : Value → Shared → Prop} {E : Value → Shared → Prop}, Q c { s' with heap := h3 } → wpAny (model X.prog X.w) (X.A.mark (some (.ref a))) (eval (.Name x np) X.env) Q E { s' with heap := h3 } := fun {Q E} q => by
      obtain ⟨hg, hdbg, hm | ⟨hm, hv, hnn⟩⟩ := hc
      · exact ld_glob (X := X.suite a ((a, oe3) :: (X.pn ++ pins))) S3 hg hm q hdbg
      · exact ld_blt (X := X.suite a ((a, oe3) :: (X.pn ++ pins))) S3 hg hm hv q hnn hdbg
    refine test (LM.here ?_)
    cases b with
    | true =>
      refine codeAny_handlers_suite_as ?_
      refine HandSPX.lands_againZ fl3 fun h4 fl4 up4 => ?_
      have J4 : Inv X pins σ' H' { s' with heap := h4 } := J.landed nb fl4.1 ((up.trans up3).trans up4) os ag
      obtain ⟨oe4, vs4, he4, hz4, hd4⟩ := fl4.there
      have S4 : Inv (X.suite a (X.pn ++ pins)) [] σ' (upd H' a (exF a cls d)) { s' with heap := h4 } := inv_suiteT (inv_track J4 n0 he4 hz4 hd4 na nL np') a
      refine store_ok (X := X.suite a (X.pn ++ pins)) (v := .ref a) S4 hN hi hloc rfl (fun s5 S5 => ?_) (.inr hln)
      refine wpAny_mono ((hsu a (X.pn ++ pins)).run [] s5 _ _ _ S5 (hyes rfl a na)) (fun f s6 hsp => ?_) (fun _ _ z => False.elim z)
      have end_ : ∀ {σ6 : L2.St} {H6 : Hp} {Q : Shared → Prop}, Inv (X.suite a (X.pn ++ pins)) [] σ6 H6 s6 → (∀ s7, Inv X pins (σ6.set i none) H6 s7 → Q s7) →
          wpAny (model X.prog X.w) X.A (do bindName X.env n .none; unbindBehindTheSuite X.env n pos') (fun _ s7 => Q s7) X.xe s6 := fun {σ6 H6 Q} S6 hq => gone_ok (inv_unsuiteT S6 ok) hN hi hln hq
      cases f with
      | next =>
        obtain ⟨σ6, H6, S6, q6⟩ := hsp
        exact end_ S6 fun s7 J7 => ⟨_, _, J7, q6⟩
      | brk =>
        obtain ⟨σ6, H6, S6, q6⟩ := hsp
        exact end_ S6 fun s7 J7 => ⟨_, _, J7, q6⟩
      | cont =>
        obtain ⟨σ6, H6, S6, q6⟩ := hsp
        exact end_ S6 fun s7 J7 => ⟨_, _, J7, q6⟩
      | ret u =>
        obtain ⟨v6, σ6, H6, S6, r6, q6⟩ := hsp
        exact end_ S6 fun s7 J7 => ⟨_, _, _, J7, r6, q6⟩
    | false =>
      show wpAny _ X.A (handleBy (.ref a) X.env []) _ _ _
      refine wpAny_handleBy_nil ?_
      obtain ⟨k1, k2, k3, oe, vs, T, oT, ts', he, hz, hd, h1, hr⟩ := id fl3
      unfold PySem.passOn
      refine wpAny_bind (wpAny_field he hd h1 ?_)
      rw [if_neg (show ¬ ((Value.ref T == Value.none) = true) from by simp)]
      have fin : wpAny (model X.prog X.w) X.A (setFlight (.ref a) X.env.frame) (fun _ s4 => wpAny (model X.prog X.w) X.A (throw (.ref a) : Sem Flow) (SP X pins D) X.xe s4) X.xe { s' with heap := h3 } := by
        rw [hf]
        refine HandSPX.setFlight_upZ fl3 fun h4 hh4 up4 => wpAny_throw (tk _ _ ?_)
        exact ⟨a, B, sI, pins, σ', H', cls, d, rfl, J, nb, (up.trans up3).trans up4, .inr (.inr (by rw [hs]; exact hh4)), na, os, ag, hno rfl⟩
      first
        | exact wpAny_bind (wpAny_pure (wpAny_bind fin))
        | exact wpAny_bind fin
  · cases f with
    | next =>
      obtain ⟨σ', H', J', q⟩ := hsp
      exact wpAny_execs_nil ⟨σ', H', J'.ofTry ok, q⟩
    | brk =>
      obtain ⟨σ', H', J', q⟩ := hsp
      exact ⟨σ', H', J'.ofTry ok, q⟩
    | cont =>
      obtain ⟨σ', H', J', q⟩ := hsp
      exact ⟨σ', H', J'.ofTry ok, q⟩
    | ret u =>
      obtain ⟨v, σ', H', J', r, q⟩ := hsp
      exact ⟨v, σ', H', J'.ofTry ok, r, q⟩
end
/-! ### defs that run whether or not an error is handled -/
structure FnW (P : Program) (w : World) (K : PySem.W.Frag) (mg : Str → Option Value) (base : Heap) (CX : CXT) (k : Nat) (f : Addr) (fd : FuncData) (ps : List Str) (sp : Sp) : Prop where
  len : ∀ vs H Q E, sp vs H Q E → vs.length = ps.length
  run : ∀ (A : Around) (outer : List Env) (s : Shared) (H : Hp) (args : Args) (us : List Value) (vs : List V) (Q : VK) (E : XK), L2H.RoomH k A → Env0 P w K mg base A outer s H → BindsTo s fd args (ps.zip us) → Vals vs us → sp vs H Q E →
    codeAny (model P w) A (.call (.ref f) args) (CR CX outer P w H s Q E) s
theorem FnW.ok {P : Program} {w : World} {K : PySem.W.Frag} {mg : Str → Option Value} {base : Heap} {CX : CXT} {k : Nat} {f : Addr} {fd : FuncData} {ps : List Str} {sp : Sp} (F : FnW P w K mg base CX k f fd ps sp) : FnOk P w K mg base CX k f fd ps sp :=
  ⟨F.len, fun A outer s H args us vs Q E hr => F.run A outer s H args us vs Q E (L2H.roomH_of hr)⟩
def cxW (CX : CXT) (P : Program) (w : World) (K : PySem.W.Frag) (mg : Str → Option Value) (base : Heap) (N : List Str) (qual : Str) (scope : Scope) (f : Addr) (cd : Value) (A : Around) (outer : List Env) (s : Shared) (H : Hp) (E : XK) : Cx :=
  { cxOf CX P w K mg base N qual scope f cd A outer s H E with calm := false }
section
variable {CX : CXT} {P : Program} {w : World} {K : PySem.W.Frag} {mg : Str → Option Value} {base : Heap} {N ps : List Str} {qual : Str} {scope : Scope} {f : Addr} {cd : Value} {A : Around} {outer : List Env} {s s1 : Shared} {H : Hp} {E : XK} {us : List Value} {vs : List V}
theorem inv_startW (S : FnScope N ps scope) (e0 : Env0 P w K mg base A outer s H) (hl : vs.length = ps.length) (r : Vals vs us)
    (x : InCallC s s.heap.objs.size (bindL (envOfC qual scope s.heap.objs.size f cd).kindOf (ps.zip us) fun _ => none) (cellsFrom (s.heap.objs.size + 1) scope.names []) (bindC (envOfC qual scope s.heap.objs.size f cd).kindOf (ps.zip us) fun _ => none) s1) :
    Inv (cxW CX P w K mg base N qual scope f cd A outer s H E) [] (L2.start N vs) H s1 := by
  have hpl : ps.length ≤ N.length := by have := congrArg List.length S.pre; rw [List.length_take] at this; omega
  obtain ⟨h1, tk, rfl, hk⟩ := x.done
  have noA : ∀ b : Addr, b ∉ (cxW CX P w K mg base N qual scope f cd A outer s H E).ex := fun b z => absurd (show b ∈ ([] : List Addr) from z) (by simp)
  refine ⟨⟨e0.mod, S.kind, rfl, rfl, Nat.le_refl _, fun y z c h1 h2 => ?_, fun y hy => ?_, fun y c _ h => ?_, (fun z => Bool.noConfusion (show false = true from z)), Around.frames_deeper e0.frames, .inr ⟨rfl, rfl⟩, fun b z => absurd z (noA b), e0.bs, e0.bsz, fun b _ _ => noA b, fun b z => absurd z (noA b), e0.funs, e0.frf⟩,
    rfl, e0.bare, Un.kept hk, ⟨_, x.toInCall.ns, fun i y v h1 h2 h3 => ?_⟩, fun y c h => ⟨_, x.cell y c h⟩, e0.hok.fresh (Nat.le_refl _), fun y c h => ?_, fun q hq => absurd (show q ∈ ([] : List (Addr × Obj)) from hq) (by simp), e0.hok.kept hk, ?_⟩
  · exact name_of_addr x.apart (PySem.mem_of_lookup h1) (PySem.mem_of_lookup h2)
  · have hy : scope.names.lookup y = some .cell ∨ scope.names.lookup y = some .free := hy
    rcases hy with hy | hy
    · exact cell_has hy
    · exact absurd rfl (S.nofree _ (PySem.mem_of_lookup hy))
  · exact Nat.le_of_lt (x.above y c (PySem.mem_of_lookup h))
  · have hi : i < vs.length := by
      unfold L2.start at h2
      by_cases hi : i < vs.length
      · exact hi
      · rw [List.getElem?_append_right (by simpa using hi)] at h2
        rw [List.getElem?_replicate] at h2
        split at h2 <;> cases h2
    have ha : vs[i]? = some v := by
      unfold L2.start at h2
      rw [List.getElem?_append_left (by simpa using hi), List.getElem?_map] at h2
      cases e : vs[i]? with
      | none => rw [e] at h2; cases h2
      | some a => rw [e] at h2; cases h2; rfl
    obtain ⟨u, hu, rv⟩ := r.get ha
    have hp : ps[i]? = some y := by
      rw [← S.pre, List.getElem?_take_of_lt (by omega)]; exact h1
    have ndP : ps.Nodup := by rw [← S.pre]; exact S.nd.sublist (List.take_sublist _ _)
    refine ⟨u, rv, ?_⟩
    rcases S.par y (List.mem_of_getElem? hp) with k | k
    · exact .inl ⟨k, bindL_get ndP hp hu k⟩
    · obtain ⟨c, e⟩ := cell_has (n := s.heap.objs.size + 1) k
      refine .inr ⟨.inl k, c, e, ?_⟩
      have q := x.cell y c e
      rw [bindC_get ndP hp hu (by show scope.names.lookup y ≠ _; rw [k]; decide)] at q
      exact q
  · exact e0.hok.fresh (Nat.le_of_lt (x.above y c (PySem.mem_of_lookup h)))
  · unfold L2.start
    show _ = N.length
    rw [List.length_append, List.length_map, List.length_replicate]
    omega
theorem fn_ofW {k : Nat} {name : Str} {params : Arguments} {body : List Stmt} {dV kV doc pm cdv ct oc : Value} {an od : Option Addr}
    {osl : Array (Option Value)} {sp : Sp} (lk : K.lookup f = some ⟨oc, od, .func (PySem.W.fnOf name qual params body scope dV kV doc pm an cdv ct), osl⟩) (hcd : PySem.W.codeIn K cdv qual = true) (S : FnScope N ps scope)
    (len : ∀ vs H Q E, sp vs H Q E → vs.length = ps.length)
    (hbody : ∀ (A : Around) (outer : List Env) (s : Shared) (H : Hp) (vs : List V) (Q : VK) (E : XK), L2H.RoomH k (A.deeper (envOfC qual scope s.heap.objs.size f cdv)) → sp vs H Q E →
      ∃ t, PSs (cxW CX P w K mg base N qual scope f cdv A outer s H E) body t ∧ t { nx := fun _ H' => Q .non H', rt := Q } (L2.start N vs) H) :
    FnW P w K mg base CX (k + 1) f (PySem.W.fnOf name qual params body scope dV kV doc pm an cdv ct) ps sp := by
  refine ⟨len, fun A outer s H args us vs Q E hr e0 hb r hsp => ?_⟩
  have hl := len _ _ _ _ hsp
  have KX : K.In s.heap := e0.mod.kin.keeps fun b o e => (e0.bs b o e).1
  have lim : s.heap.NoLimit := e0.mod.nolimit.keeps fun b o e => (e0.bs b o e).1
  have hkind : ∀ y ∈ ps.zip us, scope.names.lookup y.1 = some .local ∨ (scope.names.lookup y.1 = some .cell ∧ ((cellsFrom (s.heap.objs.size + 1) scope.names []).lookup y.1).isSome = true) := fun ⟨n, v⟩ hy => by
    rcases S.par n (List.of_mem_zip hy).1 with q | q
    · exact .inl q
    · exact .inr ⟨q, PySem.W.cellsFrom_some _ _ _ (.inl q)⟩
  refine codeAny_call_function hr.depth (KX _ _ lk) rfl S.co S.gen rfl (PySem.W.codeRec_of KX hcd) (hb _ _ _ _ ?_)
  refine wpAny_newFunctionEnv_cells S.kind hkind fun env he s1 x => ?_
  subst he
  refine ⟨lim.keeps x.toInCall.keep, codeAny_func ?_⟩
  obtain ⟨t, ht, hq⟩ := hbody A outer s H vs Q E (hr.deeper _) hsp
  have I : Inv (cxW CX P w K mg base N qual scope f cdv A outer s H E) [] (L2.start N vs) H s1 := inv_startW S e0 hl r x
  refine wpAny_mono (ht.run [] s1 (L2.start N vs) H _ I hq) (fun fl s' hs => ?_) fun e s' hs => hs
  have fin : ∀ {σ' : L2.St} {H' : Hp} {v : V} {u : Value}, Inv (cxW CX P w K mg base N qual scope f cdv A outer s H E) [] σ' H' s' → RelV v u → Q v H' → CE outer P w H s Q u s' :=
    fun {σ' H' v u} J rv q => ⟨v, H', J.os, J.bare, J.base, J.hok, rv, q⟩
  cases fl with
  | ret u =>
    obtain ⟨v, σ', H', J, rv, q⟩ := hs
    exact fin J rv q
  | next =>
    obtain ⟨σ', H', J, q⟩ := hs
    exact fin (v := V.non) (u := Value.none) J rfl q
  | brk =>
    obtain ⟨_, _, _, q⟩ := hs
    exact False.elim q
  | cont =>
    obtain ⟨_, _, _, q⟩ := hs
    exact False.elim q
end
section
variable {X : Cx} {CX : CXT} {k : Nat} {f : Addr} {fd : FuncData} {ps : List Str} {sp : Sp} {E : XK} {x : Str} {q pos : Pos} {e : Expr} {es : List Expr} {t : TA}
theorem pe_callW (F : FnW X.prog X.w X.K X.mg X.base CX k f fd ps sp) (hr : L2H.RoomH k X.A) (hm : X.mg x = some (.ref f)) (hk : PySem.W.keepIn X.K (.ref f) = true) (hb : Binds X.K fd ps []) (hx : Passes CX X E)
    (ha : PA X (e :: es) t) (hg : Gl X x := by rfl) (hdb : (x == ("__debug__" : Str)) = false := by decide) (he : starEach (e :: es) X.env = (false, eval e X.env) :: starEach es X.env := by rfl) (hpl : (backTo pos (starEach es X.env)).any (·.1) = false := by rfl) :
    PE X (.Call (.Name x q) (e :: es) [] pos) (tCall sp [] E t) := by
  refine ⟨fun pins s σ H Q I h => ?_⟩
  refine wpAny_Call_Name_kw (ld_glob I hg hm ?_ hdb)
  refine PySem.W.callWith_K (h₀ := X.base) I.ok.mod.kin hk (thn (ha.run pos pins s σ H _ I h) fun us s1 ⟨vs, H1, I1, r, q⟩ => ⟨I1.kIn, ?_⟩) he hpl
  have q' : sp vs H1 Q E := by
    have z : sp (vs ++ []) H1 Q E := q
    rw [List.append_nil] at z
    exact z
  have hl : us.length = ps.length := by rw [← r.length]; exact F.len _ _ _ _ q'
  have b := hb s1 us I1.kIn (by rw [List.append_nil]; exact hl)
  rw [List.append_nil] at b
  refine wpAny_call (codeAny_mono (F.run X.A X.stack s1 H1 ⟨us, []⟩ us vs Q E hr I1.env0 b r q') fun r s' hq => ?_)
  cases r with
  | error e => exact hx pins σ H1 s1 e s' I1 hq
  | ok fl =>
    cases fl with
    | ret u => exact I1.after hq
    | next => exact False.elim hq
    | brk => exact False.elim hq
    | cont => exact False.elim hq
end
end HX
/-! operators, abs, bool, str, ==, != of an own class; its static methods -/
namespace PySem.W
open PySem PySem.Spec PySem.Calls PyProof.Rows Builtin
section
variable {prog : Program} {w : World} {A : Around} {E : Value → Shared → Prop} {s : Shared} {K : Frag} {x C f : Addr} {ox : Obj} {od : Option Obj}
theorem hx_abs {Q : Value → Shared → Prop} (X : K.In s.heap) (I : InstAt s.heap x ox C od) (hs : findIn K (.ref C) "__abs__" = some (some (.ref f))) (hf : isFn K (.ref f) = true)
    (h : wpAny (model prog w) A.in1 (call (.ref f) [.ref x]) Q E s) : wpAny (model prog w) A (call (.builtin "abs") [.ref x]) Q E s := by
  refine Calls.call_function_entry PyProof.Rows.kind_abs PyProof.Rows.plain_abs PyProof.Rows.entry_abs (PyProof.Rows.args_abs _) ?_
  unfold Builtin.«abs»
  refine wpAny_bind (m := oneArg "abs" _) (wpAny_pure ?_)
  refine wpAny_bind (m := callSpecial? (.ref x) (Str.ofString "__abs__")) (special_fn X I hs (beq_iff_eq.mp hf) (wpAny_mono h (fun r s' hr => ?_) fun _ _ y => y))
  exact wpAny_pure ⟨_, rfl, hr⟩
theorem hx_truthy {Q : Bool → Shared → Prop} (X : K.In s.heap) (I : InstAt s.heap x ox C od) (hs : findIn K (.ref C) "__bool__" = some (some (.ref f))) (hf : isFn K (.ref f) = true)
    (h : wpAny (model prog w) A (call (.ref f) [.ref x]) (BoolBack Q) E s) : wpAny (model prog w) A (truthy (.ref x)) Q E s := by
  unfold truthy
  refine wpAny_bind (m := callSpecial? (.ref x) (Str.ofString "__bool__")) (special_fn X I hs (beq_iff_eq.mp hf) (wpAny_mono h (fun r s' hr => ?_) fun _ _ y => y))
  cases r <;> first | exact hr.elim | skip
  exact wpAny_pure hr
theorem hx_bool {Q : Value → Shared → Prop} (X : K.In s.heap) (I : InstAt s.heap x ox C od) (hs : findIn K (.ref C) "__bool__" = some (some (.ref f))) (hf : isFn K (.ref f) = true)
    (h : wpAny (model prog w) A.in1.in1 (call (.ref f) [.ref x]) (BoolBack (fun b s' => Q (.bool b) s')) E s) : wpAny (model prog w) A (call (.type "bool") [.ref x]) Q E s := by
  refine callType_codes (T := "bool") (Bi := Builtin.«object.__init__») (Q₁ := fun r s₁ => ∃ b, r = .bool b ∧ Q r s₁) PySem.F.called_bool (PySem.F.typeCall_bool_1 _) PySem.F.entry_object_init ?_ ?_
  · refine codeAny_of_tree ?_
    show wpAny _ A.in1.in1 (do checkBuiltinCall "bool.__new__" ⟨[.type "bool", .ref x], []⟩; again (.builtin "bool.__new__" ⟨[.type "bool", .ref x], []⟩)) _ _ s
    refine wpAny_bind (wpAny_of_eq (PySem.F.newCall_bool_1 _) (wpAny_pure ⟨plainId_quiet (by decide +kernel) _, codeAny_builtin PySem.F.entry_bool_new ?_⟩))
    rw [Around.under_plainId (by decide +kernel) _]
    have f1 := PySem.F.conv_sub_bool
    have hT := hx_truthy (Q := fun b s' => Q (.bool b) s') X I hs hf h
    obtain ⟨hp, g, d, tk, os⟩ := s
    repeat (any_goals (first | (refine wpAny_mono hT (fun b s' hb => ?_) fun _ _ y => y) | wp_step))
    all_goals first | exact ⟨_, rfl, hb⟩ | exact ⟨_, rfl, _, rfl, hb⟩ | skip
  · rintro obj s₁ ⟨b, rfl, hq⟩
    exact ⟨rfl, PySem.F.args_object_init_2 _ _, object_init_meets PySem.F.called_bool.init.lookup PySem.F.called_bool.made (by decide) prog w A.in1 _ s₁ ⟨rfl, rfl, hq⟩⟩
theorem hx_slot_ne : Slot "object" "__ne__" "object.__ne__" := .of (owner := "object") (n := "__ne__") (by rw [typeLookup_type, builtinLookup_eq_fast]; kernel_rfl) (by decide +kernel) (by decide +kernel) (by decide +kernel)
    (by first | exact .inl (by decide +kernel) | exact .inr (by decide +kernel)) (by rw [isSubtype_type]; kernel_rfl)
theorem hx_ne {b : Value} {tb : Value} {Q : Value → Shared → Prop} (hu : A.units + 1 < cLine) (X : K.In s.heap) (I : InstAt s.heap x ox C od) (hb : Looks (model prog w) s.heap (typeOf b) tb) (hn : notFirst K C tb = true)
    (hne : findIn K (.ref C) "__ne__" = some (some (.builtin "object.__ne__"))) (hob : mroIn K C (.type "object") = some true)
    (hs : findIn K (.ref C) "__eq__" = some (some (.ref f))) (hf : isFn K (.ref f) = true)
    (h : wpAny (model prog w) A.in1 (call (.ref f) [.ref x, b]) (BoolBack (fun c s' => Q (.bool (!c)) s')) E s) : wpAny (model prog w) A (richCompare .NotEq (.ref x) b) Q E s := by
  have two : wpAny (model prog w) A (call (.builtin "object.__ne__") [.ref x, b]) (fun v s' => ∃ c, v = .bool c ∧ Q (.bool c) s') E s := by
    refine wpAny_call (codeAny_call_builtin hx_slot_ne.plain PySem.F.cmpEntry_ne ?_)
    refine @check_slot (model prog w) _ _ s "object.__ne__" "object" "__ne__" (.ref x) [b] [] _ PySem.F.cmpKind_ne PySem.F.cmpSplit_ne (I.type.andThen (looks_mroIn X hob)) (PySem.F.cmpArgs_ne _ _) ?_
    unfold Builtin.«object.__ne__»
    refine wpAny_bind (m := slotArgs "__ne__" 1 _) (wpAny_pure ?_)
    refine wpAny_bind (wpAny_cRoomFor (A := A.in1) (by show A.units + 1 < cLine; exact hu) ?_)
    refine wpAny_bind (ifBound_K X I hs hf (wpAny_mono h (fun r s' hr => ?_) fun _ _ y => y))
    cases r <;> first | exact hr.elim | skip
    rename_i c
    refine wpAny_bind ?_
    exact wpAny_truthy_bool (wpAny_pure ⟨_, rfl, hr⟩)
  have one : wpAny (model prog w) A (tryCompare (.ref x) "__ne__" b) (fun r s' => ∃ v, r = some v ∧ Q v s') E s := by
    unfold tryCompare
    refine wpAny_bind (m := callSpecialIfBound? (.ref x) "__ne__" [b]) ?_
    simp only [callSpecialIfBound?, bindSpecialIfBound?]
    refine wpAny_holding (wpAny_bind (wpAny_bind (wpAny_bind (I.type.here ((looks_findIn X hne).here ?_)))))
    refine wpAny_bind (wpAny_askSetting (wpAny_ite ?_))
    have fin : wpAny (model prog w) A (call (.builtin "object.__ne__") ([.ref x] ++ [b]) >>= fun v => pure (some v)) (fun a s' => wpAny (model prog w) A (match a with | some .notImplemented | none => pure none | some v => pure (some v)) (fun r s' => ∃ v, r = some v ∧ Q v s') E s') E s :=
      wpAny_bind (wpAny_mono two (fun v s' ⟨c, e, q⟩ => wpAny_pure (by subst e; exact wpAny_pure ⟨_, rfl, q⟩)) fun _ _ y => y)
    split
    · exact wpAny_bind (wpAny_of_eq (hx_slot_ne.bind _) (wpAny_pure (by exact fin)))
    · exact wpAny_tryCatch (wpAny_bind (wpAny_of_eq (hx_slot_ne.bind _) (wpAny_pure (by exact fin))))
  unfold richCompare
  simp only [oneThing_ref]
  refine wpAny_holding (wpAny_bind (wpAny_cRoomFor (by omega) ?_))
  refine wpAny_bind (I.type.here (wpAny_bind (hb.here ?_)))
  split
  · rename_i q
    have e : subIn K tb (.ref C) = some false := by
      rcases Bool.or_eq_true_iff.mp hn with e | e
      · rw [beq_iff_eq.mp e] at q; simp at q
      · exact beq_iff_eq.mp e
    refine wpAny_bind ((looks_subIn X e).here ?_)
    simp only [Bool.false_eq_true, if_false]
    refine wpAny_bind (wpAny_mono one (fun r s' z => ?_) fun _ _ e => e)
    obtain ⟨v, rfl, hq⟩ := z
    exact wpAny_pure hq
  · refine wpAny_bind (wpAny_pure ?_)
    simp only [Bool.false_eq_true, if_false]
    refine wpAny_bind (wpAny_mono one (fun r s' z => ?_) fun _ _ e => e)
    obtain ⟨v, rfl, hq⟩ := z
    exact wpAny_pure hq
end
end PySem.W
/-! the same as rules of the layer -/
namespace HX
open PySem PySem.Spec PyProof.Rows L2
/-- what the written part says of a class for its operators -/
structure OwnC (K : PySem.W.Frag) (C : Addr) : Prop where
  sf : PySem.W.selfFirst K C = true
  ti : PySem.W.subIn K (.type "int") (.ref C) = some false
  ts : PySem.W.subIn K (.type "str") (.ref C) = some false
  ne : PySem.W.findIn K (.ref C) "__ne__" = some (some (.builtin "object.__ne__"))
  ob : PySem.W.mroIn K C (.type "object") = some true
section
variable {X : Cx} {CX : CXT} {pins : List (Addr × Obj)} {σ : L2.St} {H : Hp} {s : Shared} {C g : Addr} {k : Nat} {fd : FuncData} {ps : List Str} {sp : Sp} {E : XK}
theorem inst_of (I : Inv X pins σ H s) {p dx : Addr} {fs : List (Str × V)} (h : H p = some (.ins C dx fs)) : ∃ od, PySem.W.InstAt s.heap p (PySem.W.instObj C dx) C (some od) := by
  obtain ⟨mA, O, _⟩ := ins_get I.hok h
  obtain ⟨od, J, _⟩ := O.look
  exact ⟨od, J⟩
/-- a call below the running body -/
theorem run_below {A : Around} {Q : VK} {us : List Value} {vs : List V} (F : FnOk X.prog X.w X.K X.mg X.base CX k g fd ps sp) (hr : Room k A) (e0 : Env0 X.prog X.w X.K X.mg X.base A X.stack s H) (hb : Binds X.K fd ps []) (hx : Passes CX X E) (I : Inv X pins σ H s) (r : Vals vs us) (h : sp vs H Q E) :
    wpAny (model X.prog X.w) A (call (.ref g) us) (EP X pins σ Q) X.xe s := by
  have hl : us.length = ps.length := by rw [← r.length]; exact F.len _ _ _ _ h
  have b := hb s us I.kIn (by rw [List.append_nil]; exact hl)
  rw [List.append_nil] at b
  refine wpAny_call (codeAny_mono (F.run A X.stack s H ⟨us, []⟩ us vs Q E hr e0 b r h) fun r s' hq => ?_)
  cases r with
  | error e => exact hx pins σ H s e s' I hq
  | ok fl =>
    cases fl with
    | ret u => exact I.after hq
    | next => exact False.elim hq
    | brk => exact False.elim hq
    | cont => exact False.elim hq
/-- the second operand: an int, or an instance of the same class -/
def Opnd (C : Addr) (y : V) (H : Hp) : Prop := (∃ i, y = .int i) ∨ ∃ q dy gs, y = .ref q ∧ H q = some (.ins C dy gs)
/-- x op y, x an instance -/
def rOwnB (C : Addr) (sp : Sp) (E : XK) : R2 := fun x y H Q => ∃ p dx fs, x = .ref p ∧ H p = some (.ins C dx fs) ∧ Opnd C y H ∧ sp [x, y] H Q E
theorem op_ownB {op : Operator} (T : OwnC X.K C) (hs : PySem.W.findIn X.K (.ref C) (PySem.dunder op.info.2) = some (some (.ref g))) (hf : PySem.W.isFn X.K (.ref g) = true) (hR : PySem.W.findIn X.K (.ref C) (PySem.dunderR op.info.2) = some none)
    (h1 : (PySem.W.findIn X.K (.type "int") (PySem.dunder op.info.2)).isSome = true) (h2 : (PySem.W.findIn X.K (.type "int") (PySem.dunderR op.info.2)).isSome = true)
    (F : FnOk X.prog X.w X.K X.mg X.base CX k g fd ps sp) (hr : Room k X.A) (hb : Binds X.K fd ps []) (hx : Passes CX X E) : OpR X (binaryOp op) (rOwnB C sp E) := by
  intro pins s σ H x y v u Q I rx ry h
  obtain ⟨p, dx, fs, rfl, hp, hy, q⟩ := h
  cases (show v = Value.ref p from rx)
  obtain ⟨od, J⟩ := inst_of I hp
  obtain ⟨m, hF⟩ := I.fr
  rcases hy with ⟨i, rfl⟩ | ⟨q', dy, gs, rfl, hq'⟩
  · obtain ⟨t, rfl⟩ := ry
    obtain ⟨fo, e1⟩ := Option.isSome_iff_exists.mp h1
    obtain ⟨ro, e2⟩ := Option.isSome_iff_exists.mp h2
    refine PySem.W.ksp_binT hF I.ok.mod.kin J (T := "int") rfl T.sf hs hf hR (.inl rfl) e1 e2 T.ti ?_
    refine wpAny_mono (run_below F hr I.env0 hb hx I (us := [.ref p, .int i t]) (vs := [.ref p, .int i]) (.cons rfl (.cons ⟨_, rfl⟩ .nil)) q) (fun w' s' z => ?_) fun _ _ x => x
    obtain ⟨z', H', I', rz, qz⟩ := z
    exact SlX.cmpback rz ⟨z', H', I', rz, qz⟩
  · cases (show u = Value.ref q' from ry)
    obtain ⟨od', J'⟩ := inst_of I hq'
    refine PySem.W.binop_K hF I.ok.mod.kin J J'.type T.sf hs hf ?_
    refine wpAny_mono (run_below F hr I.env0 hb hx I (us := [.ref p, .ref q']) (vs := [.ref p, .ref q']) (.cons rfl (.cons rfl .nil)) q) (fun w' s' z => ?_) fun _ _ x => x
    obtain ⟨z', H', I', rz, qz⟩ := z
    exact SlX.cmpback rz ⟨z', H', I', rz, qz⟩
/-- f(x), x an instance: -x, abs(x), bool(x), str(x) -/
def rOwnU (C : Addr) (sp : Sp) (E : XK) : V → Hp → VK → Prop := fun x H Q => ∃ p dx fs, x = .ref p ∧ H p = some (.ins C dx fs) ∧ sp [x] H Q E
theorem un_ownN (hs : PySem.W.findIn X.K (.ref C) "__neg__" = some (some (.ref g))) (hf : PySem.W.isFn X.K (.ref g) = true) (F : FnOk X.prog X.w X.K X.mg X.base CX k g fd ps sp) (hr : Room k X.A) (hb : Binds X.K fd ps []) (hx : Passes CX X E) : UnR X (unaryOp .USub) (rOwnU C sp E) := by
  intro pins s σ H x v Q I rx h
  obtain ⟨p, dx, fs, rfl, hp, q⟩ := h
  cases (show v = Value.ref p from rx)
  obtain ⟨od, J⟩ := inst_of I hp
  obtain ⟨m, hF⟩ := I.fr
  exact PySem.W.ksp_neg hF I.ok.mod.kin J hs hf (run_below F hr I.env0 hb hx I (us := [.ref p]) (vs := [.ref p]) (.cons rfl .nil) q)
def rOwn1 (C : Addr) (sp : Sp) (E : XK) : List V → Hp → VK → Prop := fun xs H Q => ∃ p dx fs, xs = [.ref p] ∧ H p = some (.ins C dx fs) ∧ sp [.ref p] H Q E
theorem call_ownAbs (hs : PySem.W.findIn X.K (.ref C) "__abs__" = some (some (.ref g))) (hf : PySem.W.isFn X.K (.ref g) = true) (F : FnOk X.prog X.w X.K X.mg X.base CX k g fd ps sp) (hr : Room (k + 1) X.A) (hb : Binds X.K fd ps []) (hx : Passes CX X E) : CallR X (.builtin "abs") (rOwn1 C sp E) := by
  intro pins s σ H xs us Q I r h
  obtain ⟨p, dx, fs, rfl, hp, q⟩ := h
  obtain ⟨u, rfl, ru⟩ := vals1 r
  cases (show u = Value.ref p from ru)
  obtain ⟨od, J⟩ := inst_of I hp
  exact PySem.W.hx_abs I.kIn J hs hf (run_below F hr.in1 I.env0.in1 hb hx I (us := [.ref p]) (vs := [.ref p]) (.cons rfl .nil) q)
def rOwn1B (C : Addr) (sp : Sp) (E : XK) : List V → Hp → VK → Prop := fun xs H Q => ∃ p dx fs, xs = [.ref p] ∧ H p = some (.ins C dx fs) ∧ sp [.ref p] H (fun v H' => ∃ b, v = .bl b ∧ Q (.bl b) H') E
theorem call_ownBool (hs : PySem.W.findIn X.K (.ref C) "__bool__" = some (some (.ref g))) (hf : PySem.W.isFn X.K (.ref g) = true) (F : FnOk X.prog X.w X.K X.mg X.base CX k g fd ps sp) (hr : Room (k + 2) X.A) (hb : Binds X.K fd ps []) (hx : Passes CX X E) : CallR X (.type "bool") (rOwn1B C sp E) := by
  intro pins s σ H xs us Q I r h
  obtain ⟨p, dx, fs, rfl, hp, q⟩ := h
  obtain ⟨u, rfl, ru⟩ := vals1 r
  cases (show u = Value.ref p from ru)
  obtain ⟨od, J⟩ := inst_of I hp
  have hr2 : Room k X.A.in1.in1 := (show Room (k + 1) X.A.in1 from Room.in1 hr).in1
  refine PySem.W.hx_bool I.kIn J hs hf (wpAny_mono (run_below F hr2 I.env0.in1.in1 hb hx I (us := [.ref p]) (vs := [.ref p]) (.cons rfl .nil) q) (fun w' s' z => ?_) fun _ _ x => x)
  obtain ⟨z', H', I', rz, b, rfl, qz⟩ := z
  cases (show w' = Value.bool b from rz)
  exact ⟨.bl b, H', I', rfl, qz⟩
def rOwn1S (C : Addr) (sp : Sp) (E : XK) : List V → Hp → VK → Prop := fun xs H Q => ∃ p dx fs, xs = [.ref p] ∧ H p = some (.ins C dx fs) ∧ sp [.ref p] H (fun v H' => ∃ b, v = .str b ∧ Q (.str b) H') E
theorem call_ownStr (hs : PySem.W.findIn X.K (.ref C) "__str__" = some (some (.ref g))) (hf : PySem.W.isFn X.K (.ref g) = true) (F : FnOk X.prog X.w X.K X.mg X.base CX k g fd ps sp) (hr : Room (k + 2) X.A) (hb : Binds X.K fd ps []) (hx : Passes CX X E) : CallR X (.type "str") (rOwn1S C sp E) := by
  intro pins s σ H xs us Q I r h
  obtain ⟨p, dx, fs, rfl, hp, q⟩ := h
  obtain ⟨u, rfl, ru⟩ := vals1 r
  cases (show u = Value.ref p from ru)
  obtain ⟨od, J⟩ := inst_of I hp
  have hr2 : Room k X.A.in1.in1 := (show Room (k + 1) X.A.in1 from Room.in1 hr).in1
  refine PySem.W.kso_call hr2.units0 I.kIn J hs hf (wpAny_mono (run_below F hr2 I.env0.in1.in1 hb hx I (us := [.ref p]) (vs := [.ref p]) (.cons rfl .nil) q) (fun w' s' z => ?_) fun _ _ x => x)
  obtain ⟨z', H', I', rz, b, rfl, qz⟩ := z
  obtain ⟨t, e⟩ := (show ∃ t, w' = Value.str b t from rz)
  cases e
  exact ⟨.str b, H', I', ⟨_, rfl⟩, qz⟩
/-- the second operand of ==: also a text -/
def OpndE (C : Addr) (y : V) (H : Hp) : Prop := (∃ i, y = .int i) ∨ (∃ z, y = .str z) ∨ ∃ q dy gs, y = .ref q ∧ H q = some (.ins C dy gs)
theorem opndE_ty (T : OwnC X.K C) (I : Inv X pins σ H s) {y : V} {u : Value} (ry : RelV y u) (hy : OpndE C y H) : ∃ tb, PySem.W.Looks (model X.prog X.w) s.heap (typeOf u) tb ∧ PySem.W.notFirst X.K C tb = true := by
  rcases hy with ⟨i, rfl⟩ | ⟨z, rfl⟩ | ⟨q', dy, gs, rfl, hq'⟩
  · obtain ⟨t, rfl⟩ := ry
    exact ⟨.type "int", PySem.W.Looks.of_pure rfl, by unfold PySem.W.notFirst; rw [T.ti]; simp⟩
  · obtain ⟨t, rfl⟩ := ry
    exact ⟨.type "str", PySem.W.Looks.of_pure rfl, by unfold PySem.W.notFirst; rw [T.ts]; simp⟩
  · cases (show u = Value.ref q' from ry)
    obtain ⟨od', J'⟩ := inst_of I hq'
    exact ⟨.ref C, J'.type, by unfold PySem.W.notFirst; simp⟩
def rOwnE (C : Addr) (sp : Sp) (E : XK) : R2 := fun x y H Q => ∃ p dx fs, x = .ref p ∧ H p = some (.ins C dx fs) ∧ OpndE C y H ∧ sp [x, y] H Q E
theorem op_ownEq (T : OwnC X.K C) (hs : PySem.W.findIn X.K (.ref C) "__eq__" = some (some (.ref g))) (hf : PySem.W.isFn X.K (.ref g) = true) (F : FnOk X.prog X.w X.K X.mg X.base CX k g fd ps sp) (hr : Room k X.A) (hb : Binds X.K fd ps []) (hx : Passes CX X E) : OpR X (compareOp .Eq) (rOwnE C sp E) := by
  intro pins s σ H x y v u Q I rx ry h
  obtain ⟨p, dx, fs, rfl, hp, hy, q⟩ := h
  cases (show v = Value.ref p from rx)
  obtain ⟨od, J⟩ := inst_of I hp
  obtain ⟨m, hF⟩ := I.fr
  obtain ⟨tb, hb', hn⟩ := opndE_ty T I ry hy
  show wpAny _ _ (richCompare .Eq _ _) _ _ _
  refine PySem.W.cmp_K (op := .Eq) hr.units0 hF I.ok.mod.kin J hb' hn hs hf ?_
  refine wpAny_mono (run_below F hr I.env0 hb hx I (us := [.ref p, u]) (vs := [.ref p, y]) (.cons rfl (.cons ry .nil)) q) (fun w' s' z => ?_) fun _ _ x => x
  obtain ⟨z', H', I', rz, qz⟩ := z
  exact SlX.cmpback rz ⟨z', H', I', rz, qz⟩
def rOwnNe (C : Addr) (sp : Sp) (E : XK) : R2 := fun x y H Q => ∃ p dx fs, x = .ref p ∧ H p = some (.ins C dx fs) ∧ OpndE C y H ∧ sp [x, y] H (fun v H' => ∃ b, v = .bl b ∧ Q (.bl (!b)) H') E
theorem op_ownNe (T : OwnC X.K C) (hs : PySem.W.findIn X.K (.ref C) "__eq__" = some (some (.ref g))) (hf : PySem.W.isFn X.K (.ref g) = true) (F : FnOk X.prog X.w X.K X.mg X.base CX k g fd ps sp) (hr : Room (k + 1) X.A) (hb : Binds X.K fd ps []) (hx : Passes CX X E) : OpR X (compareOp .NotEq) (rOwnNe C sp E) := by
  intro pins s σ H x y v u Q I rx ry h
  obtain ⟨p, dx, fs, rfl, hp, hy, q⟩ := h
  cases (show v = Value.ref p from rx)
  obtain ⟨od, J⟩ := inst_of I hp
  obtain ⟨tb, hb', hn⟩ := opndE_ty T I ry hy
  show wpAny _ _ (richCompare .NotEq _ _) _ _ _
  refine PySem.W.hx_ne (by have := hr.units0; have := hr.un; omega) I.kIn J hb' hn T.ne T.ob hs hf ?_
  refine wpAny_mono (run_below F hr.in1 I.env0.in1 hb hx I (us := [.ref p, u]) (vs := [.ref p, y]) (.cons rfl (.cons ry .nil)) q) (fun w' s' z => ?_) fun _ _ x => x
  obtain ⟨z', H', I', rz, b, rfl, qz⟩ := z
  cases (show w' = Value.bool b from rz)
  exact ⟨.bl (!b), H', I', rfl, qz⟩
/-! ### a static method by its class's name -/
structure Stat (K : PySem.W.Frag) (C : Addr) (m : Str) (g : Addr) : Prop where
  rd : PySem.W.readsIn K C (.type "type") = true
  ga : PySem.W.specialIn K (.ref C) "__getattribute__" = some (some (.builtin "type.__getattribute__"))
  at_ : ∃ p, PySem.W.findCls K (.ref C) (.type "type") m = some (.get (.builtin "staticmethod.__get__") (.ref p) .none (.ref C)) ∧ ∃ rest, PySem.W.recIn K p "staticmethod" = some (.ref g :: rest)
  kp : PySem.W.keepIn K (.ref g) = true
theorem getstat {m : Str} {pl : Sem Bool} {Q : Value × List Value → Shared → Prop} {A : Around} {E' : Value → Shared → Prop} (I : Inv X pins σ H s) (T : Stat X.K C m g) (h : ∀ s', Inv X pins σ H s' → Q (.ref g, []) s') : wpAny (model X.prog X.w) A (getMethod (.ref C) m pl) Q E' s := by
  obtain ⟨p, e, rest, hp⟩ := T.at_
  refine PySem.W.method_cls I.kIn T.ga ?_
  refine PySem.W.cls_bind I.kIn T.rd e ?_
  exact wpAny_call (PySem.W.sm_get (s := { s with toks := s.toks + 1 }) I.kIn hp (PySem.W.handed_on rfl (h _ (I.tok _))))
variable {x m : Str} {q pos apos : Pos} {e : Expr} {es : List Expr} {t : TA}
theorem pe_stat {pl : Sem Bool} (T : Stat X.K C m g) (hm : X.mg x = some (.ref C)) (F : FnOk X.prog X.w X.K X.mg X.base CX k g fd ps sp) (hr : Room k X.A) (hb : Binds X.K fd ps []) (hx : Passes CX X E) (ha : PA X (e :: es) t) (hg : Gl X x := by rfl) (hdb : (x == ("__debug__" : Str)) = false := by decide)
    (hst : starEach (e :: es) X.env = (false, eval e X.env) :: starEach es X.env := by rfl) (hpl : (backTo pos (starEach es X.env)).any (·.1) = false := by rfl)
    (ht : eval (.Call (.Attribute (.Name x q) m apos) (e :: es) [] pos) X.env = (do
      let ov ← eval (.Name x q) X.env
      standAt apos.atName
      let (f, first) ← holding [ov] (getMethod ov m pl)
      callWith pos f first (backTo pos (starEach (e :: es) X.env)) (backToKw pos (keywordEach [] X.env))) := by rfl) :
    PE X (.Call (.Attribute (.Name x q) m apos) (e :: es) [] pos) (tCall sp [] E t) := by
  refine ⟨fun pins s σ H Q I h => ?_⟩
  refine PySem.W.methodCall_KW (pl := pl) (ld_glob I hg hm ?_ hdb) ht
  refine getstat I T fun s1 I1 => ?_
  refine PySem.W.callWith_K (h₀ := X.base) (first := []) I1.ok.mod.kin T.kp (thn (ha.run pos pins s1 σ H _ I1 h) fun us s2 ⟨vs, H1, I2, r, q⟩ => ⟨I2.kIn, ?_⟩) hst hpl
  have q' : sp vs H1 Q E := by
    have z : sp (vs ++ []) H1 Q E := q
    rw [List.append_nil] at z
    exact z
  exact run_below F hr I2.env0 hb hx I2 r q'
end
end HX
/-! for .. in a generator's body: the loop's code between two yields -/
namespace PySem
section
variable {M : Model} {A : Around} {R : GenEnd} {Y : Protocol} {n : Nat} {s₀ : Shared} {c : Code} {fs : List Frame} {s : Shared} {env : Env}
  {K : Flow → Sem Fin} {H : Value → Sem Fin} {gd : Bool → Bool} {lv : List Value → List Value}
theorem seg_For {tg iter : Expr} {body : List Stmt} {pos : Pos}
    (h : wpAny M (A.over c fs) (eval iter env) (fun x s₁ => wpAny M (A.over c fs) (pyIter x) (fun it s₂ => ∀ p, Seg M A R Y n s₀ (.forLoop tg it body [] env) (M.den (.forLoop tg it body [] env))
      (.ret (fun r => ((match r with | .ok f => (.pure f : Sem Flow) | .error e => .raise e).onRaise fun (x : Value) => do
        if (← field x 1) == Value.none then unsupported "frame.own-activation:exception-without-traceback"
        setFlight x env.frame).wrap K H gd lv) none (gd false) (lv []) c p [] :: fs) s₂) (fun x s' => Seg M A R Y n s₀ c (H x) fs s') s₁) (fun x s' => Seg M A R Y n s₀ c (H x) fs s') s)
    (hs : ∀ x, foldedSetIterable iter env x = pure x := by intro _; rfl) :
    Seg M A R Y n s₀ c ((exec (.For tg iter body [] pos) env).wrap K H gd lv) fs s := by
  rw [exec_For]
  show Seg M A R Y n s₀ c (.at pos fun _ => (eval iter env >>= fun a => (foldedSetIterable iter env a >>= fun x => (standAt iter.pos >>= fun _ => (holding [x] (pyIter x) >>= fun it => runOwn (.forLoop tg it body [] env) env)))).wrap K H gd lv) fs s
  refine seg_at ?_
  rw [Sem.bind_eq_wrap', Sem.wrap_wrap]
  refine seg_wrap (wpAny_mono h (fun x s₁ h₁ => ?_) fun _ _ z => z)
  rw [hs x]
  show Seg M A R Y n s₀ c (.at iter.pos fun _ => (holding [x] (pyIter x) >>= fun it => runOwn (.forLoop tg it body [] env) env).wrap K H gd lv) fs s₁
  refine seg_at ?_
  rw [Sem.bind_eq_wrap', Sem.wrap_wrap]
  refine seg_wrap (wpAny_holding (wpAny_mono h₁ (fun it s₂ h₂ => ?_) fun _ _ z => z))
  exact seg_call h₂
end
section
variable {prog : Program} {w : World} {A : Around} {R : GenEnd} {Y : Protocol} {n : Nat} {s₀ : Shared} {fs : List Frame} {s : Shared} {env : Env}
/-- what leaves a turn -/
def offTurn (env : Env) (x : Value) : Sem Fin := (do noteFrame x env; theTreesLotGoes x : Sem Unit).wrap (fun _ => .raise x) .raise id id
theorem seg_forLoop {tg : Expr} {it : Value} {body : List Stmt} {cc : Code} (hcc : cc = .forLoop tg it body [] env)
    (h : wpAny (model prog w) (A.over cc fs) (pyNext it) (fun r s₁ => match r with
        | none => Seg (model prog w) A R Y n s₀ cc (.pure (.again (.block [] env))) fs s₁
        | some v => wpAny (model prog w) (A.over cc fs) (letOwnedTupleGo tg it v) (fun _ s₂ => wpAny (model prog w) (A.over cc fs) (assign tg env v) (fun _ s₃ =>
          Seg (model prog w) A R Y n s₀ cc ((execs body env).wrap (fun f => match f with
            | .next | .cont => .pure (.again cc)
            | .brk => .pure (.done .next)
            | .ret v => .pure (.done (.ret v))) (offTurn env) id id) fs s₃)
          (fun x s' => Seg (model prog w) A R Y n s₀ cc (offTurn env x) fs s') s₂) (fun x s' => Seg (model prog w) A R Y n s₀ cc (offTurn env x) fs s') s₁)
      (fun x s' => Seg (model prog w) A R Y n s₀ cc (offTurn env x) fs s') s) :
    Seg (model prog w) A R Y n s₀ cc ((model prog w).den cc) fs s := by
  subst hcc
  show Seg _ A R Y n s₀ _ ((forTurn tg it body [] env).onRaise (fun x => do noteFrame x env; theTreesLotGoes x)) fs s
  have off : (fun x => ((do noteFrame x env; theTreesLotGoes x : Sem Unit).bind fun _ => (Sem.raise x : Sem Fin))) = offTurn env := funext fun x => Sem.bind_eq_wrap _ _
  rw [Sem.onRaise_eq_wrap, off]
  show Seg _ A R Y n s₀ _ (.at tg.pos fun _ => ((pyNext it).onRaise (fun _ => standAt { tg.pos with line := 0 }) >>= fun r => (match r with
    | none => again (.block [] env)
    | some v => (letOwnedTupleGo tg it v >>= fun _ => (assign tg env v >>= fun _ => (execs body env >>= fun f => (match f with
      | .next | .cont => again (.forLoop tg it body [] env)
      | .brk => pure (.done .next)
      | .ret v => pure (.done (.ret v)) : Sem Fin)))) : Sem Fin)).wrap .pure (offTurn env) id id) fs s
  refine seg_at ?_
  rw [Sem.bind_eq_wrap', Sem.wrap_wrap]
  refine seg_wrap (wpAny_onRaise (wpAny_mono h (fun r s₁ h₁ => ?_) fun _ _ z => wpAny_standAt z))
  cases r with
  | none => exact h₁
  | some v =>
    show Seg _ A R Y n s₀ _ ((letOwnedTupleGo tg it v >>= fun _ => _).wrap _ _ _ _) fs s₁
    rw [Sem.bind_eq_wrap', Sem.wrap_wrap]
    refine seg_wrap (wpAny_mono h₁ (fun _ s₂ h₂ => ?_) fun _ _ z => z)
    rw [Sem.bind_eq_wrap', Sem.wrap_wrap]
    refine seg_wrap (wpAny_mono h₂ (fun _ s₃ h₃ => ?_) fun _ _ z => z)
    rw [Sem.bind_eq_wrap', Sem.wrap_wrap]
    refine Eq.mpr (congrArg (fun z => Seg (model prog w) A R Y n s₀ (.forLoop tg it body [] env) z fs s₃) (Sem.wrap_congr (execs body env) id id (fun f => ?_) fun _ => rfl)) h₃
    cases f <;> rfl
end
end PySem
/-! for .. in a generator's body: the rule -/
namespace L2
open PySem PySem.Spec PyProof.Rows
def tGFor (wi : TI) (g : TG) (tb : TGn) : TGn := fun D ys σ H => wi σ H fun J H1 => ∃ W : Nat → Nat → List V → L2.St → Hp → Prop, (∃ m, W 0 m ys σ H1) ∧ ∀ i m ys σ H, W i m ys σ H →
  (J.stop i H ∧ D.nx ys σ H) ∨ (J.go i H ∧ ∃ N : List V → L2.St → Hp → Prop, (∀ ys' σ' H', N ys' σ' H' → ∃ m', m' < m ∧ W (i + 1) m' ys' σ' H') ∧ ∀ x H', J.yld i H x H' → g x σ H' fun σ2 H2 => tb { D with nx := N, ct := N, bk := D.nx } ys σ2 H2)
section
variable {X : Cx}
theorem gs_for {tg iter : Expr} {body : List Stmt} {wi : TI} {g : TG} {tb : TGn} {pos : Pos} (hp : PassesOwn (model X.prog X.w) X.A X.env X.xe) (hc : X.calm = true) (hi : PI X tg iter wi) (hg : PG X tg g) (hb : GSs X body tb)
    (hs : ∀ x, foldedSetIterable iter X.env x = pure x := by intro _; rfl) : GS X (.For tg iter body [] pos) (tGFor wi g tb) := by
  refine ⟨fun A S ip R n ys s₀ c fs K J0 gd lv s σ H D gc hn k hI ht => ?_⟩
  obtain ⟨acc0, cc0, r0, I0⟩ := hI
  have ov := gc.over
  refine seg_For (hs := hs) ?_
  rw [ov]
  refine wpAny_mono (hi.run _ s σ H _ I0 ht) (fun v s1 h1 => wpAny_mono h1 (fun itv s2 h2 => ?_) fun x s' hx => k.exc n s₀ x s' hx) fun x s' hx => k.exc n s₀ x s' hx
  obtain ⟨it, fp, tn, J, H2, e, I2, T, st2, f2, W, ⟨m0, w0⟩, turn⟩ := h2
  subst e
  intro p
  have gl := fun (kk : Result → Sem PySem.Fin) => gc_loop (k := kk) (c' := .forLoop tg (.ref it) body [] X.env) (l := lv []) (kp := []) (p := p) gc rfl rfl
  have stat : ∀ {H' : Hp} {acc : Array Value} {cc : Nat}, (∀ b ∈ fp, H' b = none) → ∀ b ∈ fp, FpOk X ((S, lstObj acc cc) :: ip) H' b := fun {H' acc cc} hn b hb => by
    obtain ⟨_, q1, q2, q3, q4, q5⟩ := f2 b hb
    refine ⟨hn b hb, q1, q2, q3, q4, fun p hp => ?_⟩
    rcases List.mem_append.mp hp with hp | hp
    · exact q5 p (List.mem_append_left _ hp)
    · rcases List.mem_cons.mp hp with hp | hp
      · rw [hp]
        exact q5 (S, lstObj acc0 cc0) (List.mem_append_right _ List.mem_cons_self)
      · exact q5 p (List.mem_append_right _ (List.mem_cons_of_mem _ hp))
  have loop : ∀ (m i n : Nat) (ys : List V) (s₀ s : Shared) (σ : L2.St) (H : Hp), n + ys.length = sizeLine → W i m ys σ H → GI X S ip ys σ H s → tn i s.heap → (∀ b ∈ fp, H b = none) →
      Seg (model X.prog X.w) A R (GY X S) n s₀ (.forLoop tg (.ref it) body [] X.env) ((model X.prog X.w).den (.forLoop tg (.ref it) body [] X.env))
        (.ret (fun r => ((match r with | .ok f => (.pure f : Sem Flow) | .error e => .raise e).onRaise (cameBack X.env)).wrap K J0 gd lv) none (gd false) (lv []) c p [] :: fs) s := by
    intro m
    induction m using Nat.strongRecOn with
    | ind m ih =>
      intro i n ys s₀ s3 σ3 H3 hn w3 hI st3 fr3
      have ee : ∀ (n : Nat) (s₀ : Shared) (x : Value) (s' : Shared), X.xe x s' → Seg (model X.prog X.w) A R (GY X S) n s₀ (.forLoop tg (.ref it) body [] X.env)
          (offTurn X.env x)
          (.ret (fun r => ((match r with | .ok f => (.pure f : Sem Flow) | .error e => .raise e).onRaise (cameBack X.env)).wrap K J0 gd lv) none (gd false) (lv []) c p [] :: fs) s' := fun n s₀ x s' hx => by
        unfold offTurn
        refine seg_wrap ?_
        rw [(gl _).over]
        refine wpAny_bind (wpAny_mono (hp x s' hx) (fun _ s'' hcb => wpAny_theTreesLotGoes ?_) fun y s'' hcb => ?_)
        · exact seg_leaf (.error x) (seg_cameBack gc k hcb)
        · exact seg_leaf (.error y) (seg_cameBack gc k hcb)
      obtain ⟨acc, cc, r, I3⟩ := hI
      refine seg_forLoop rfl ?_
      rw [(gl _).over]
      rcases turn i m ys σ3 H3 w3 with ⟨stop, qn⟩ | ⟨go, N, hN, step⟩
      · refine wpAny_mono (T.done X rfl rfl rfl hc i _ s3 σ3 H3 X.xe I3 (stat fr3) st3 stop) (fun r s4 ⟨hr, I4⟩ => ?_) fun x s' hx => ee n s₀ x s' hx
        subst hr
        refine seg_again rfl ?_
        exact seg_leaf (.ok .next) (k.ok n ys s₀ s4 .next hn ⟨σ3, H3, ⟨acc, cc, r, I4⟩, qn⟩)
      · refine wpAny_mono (T.item X rfl rfl rfl hc i _ s3 σ3 H3 X.xe I3 (stat fr3) st3 go) (fun r s4 ⟨u, hr, h4⟩ => ?_) fun x s' hx => ee n s₀ x s' hx
        subst hr
        refine wpAny_mono h4 (fun _ s5 ⟨x, H5, I5, r5, y5, st5, fr5⟩ => ?_) fun x s' hx => ee n s₀ x s' hx
        have I5' := I5.pinned (stat fr5) (T.obj _ _ st5)
        refine wpAny_mono (hg.run _ s5 σ3 H5 x u _ I5' r5 (step x H5 y5)) (fun _ s6 ⟨σ6, H6, I6, q6⟩ => ?_) fun x s' hx => ee n s₀ x s' hx
        have gp : GC X S (ip ++ pinsAt fp s5.heap) A (.forLoop tg (.ref it) body [] X.env) (.ret (fun r => ((match r with | .ok f => (.pure f : Sem Flow) | .error e => .raise e).onRaise (cameBack X.env)).wrap K J0 gd lv) none (gd false) (lv []) c p [] :: fs) id := by
          have g0 := gl (fun r => ((match r with | .ok f => (.pure f : Sem Flow) | .error e => .raise e).onRaise (cameBack X.env)).wrap K J0 gd lv)
          refine ⟨g0.pn, fun q hq => ?_, g0.apart, g0.over, g0.split, g0.guard, g0.gd⟩
          rcases List.mem_append.mp hq with hq | hq
          · exact g0.ip q hq
          · have hb := (of_pinsAt hq).1
            exact fun z => ((stat (acc := acc) (cc := cc) fr5 q.1 hb).2.2.2.2.2 (S, lstObj acc cc) (List.mem_append_right _ List.mem_cons_self)) z.symm
        have again : ∀ (n' : Nat) (ys' : List V) (s₀' s7 : Shared) (σ7 : L2.St) (H7 : Hp), n' + ys'.length = sizeLine → GI X S (ip ++ pinsAt fp s5.heap) ys' σ7 H7 s7 → N ys' σ7 H7 →
            Seg (model X.prog X.w) A R (GY X S) n' s₀' (.forLoop tg (.ref it) body [] X.env) (.pure (.again (.forLoop tg (.ref it) body [] X.env)))
              (.ret (fun r => ((match r with | .ok f => (.pure f : Sem Flow) | .error e => .raise e).onRaise (cameBack X.env)).wrap K J0 gd lv) none (gd false) (lv []) c p [] :: fs) s7 := fun n' ys' s₀' s7 σ7 H7 hn' ⟨acc7, cc7, r7, I7⟩ n7 => by
          obtain ⟨m', hm, w7⟩ := hN ys' σ7 H7 n7
          have I7' : Inv X (((S, lstObj acc7 cc7) :: ip) ++ pinsAt fp s5.heap) σ7 H7 s7 := I7
          refine seg_again rfl (ih m' hm (i + 1) n' ys' s₀' s7 σ7 H7 hn' w7 ⟨acc7, cc7, r7, I7'.unpinned⟩ (T.keep _ _ _ st5 fun b hb o e => (I7'.pin (b, o) (List.mem_append_right _ (List.mem_append_right _ (mem_pinsAt hb e)))).1) fun b hb => ?_)
          obtain ⟨o, e, d⟩ := T.obj _ _ st5 b hb
          exact (I7'.pin (b, o) (List.mem_append_right _ (List.mem_append_right _ (mem_pinsAt hb e)))).2.1
        have GIun : ∀ {ys' : List V} {σ7 : L2.St} {H7 : Hp} {s7 : Shared}, GI X S (ip ++ pinsAt fp s5.heap) ys' σ7 H7 s7 → GI X S ip ys' σ7 H7 s7 := fun {ys' σ7 H7 s7} ⟨acc7, cc7, r7, I7⟩ => ⟨acc7, cc7, r7, (show Inv X (((S, lstObj acc7 cc7) :: ip) ++ pinsAt fp s5.heap) σ7 H7 s7 from I7).unpinned⟩
        refine hb.run A S (ip ++ pinsAt fp s5.heap) R n ys s₀ _ _ _ _ id id s6 σ6 H6 { D with nx := N, ct := N, bk := D.nx } gp hn ⟨fun n' ys' s₀' s7 f hn' hs' => ?_, fun n' s₀' x s7 hx => ee n' s₀' x s7 hx⟩ ⟨acc, cc, r, I6⟩ q6
        cases f with
        | next =>
          obtain ⟨σ7, H7, I7, n7⟩ := hs'
          exact again n' ys' s₀' s7 σ7 H7 hn' I7 n7
        | cont =>
          obtain ⟨σ7, H7, I7, n7⟩ := hs'
          exact again n' ys' s₀' s7 σ7 H7 hn' I7 n7
        | brk =>
          obtain ⟨σ7, H7, I7, q7⟩ := hs'
          exact seg_leaf (.ok .next) (k.ok n' ys' s₀' s7 .next hn' ⟨σ7, H7, GIun I7, q7⟩)
        | ret v =>
          obtain ⟨x7, σ7, H7, I7, r7, q7⟩ := hs'
          exact seg_leaf (.ok (.ret v)) (k.ok n' ys' s₀' s7 (.ret v) hn' ⟨x7, σ7, H7, GIun I7, r7, q7⟩)
  exact loop m0 0 n ys s₀ s2 σ H2 hn w0 ⟨acc0, cc0, r0, I2⟩ st2 fun b hb => (f2 b hb).1
end
end L2
/-! a pair put into a set of pairs, by add -/
namespace GS
open PySem PySem.Spec PyProof.Rows L2
section
variable {P : Program} {w : World} {A : Around} {E : Value → Shared → Prop} {s : Shared}
theorem put_tup {a x : Addr} {k : List Int} {L : List (Addr × List Int)} {es : Array (Int × Value)} {ep : Nat} {t : SetTable} {Q : Value → Shared → Prop} (R : SetTR P w s.heap a L es ep t) (hx : IsT P w s.heap k x) (hu : A.units + 1 < cLine) (few : L.length + 1 < 64)
    (hQ : ∀ h' L' tk, Heap.SameBut a s.heap h' → SetT0 P w h' a L' → (k ∈ L.map (·.2) → L' = L) → (k ∉ L.map (·.2) → L'.Perm ((x, k) :: L)) → Q .none { s with heap := h', toks := tk }) :
    wpAny (model P w) A (call (.builtin "set.add") [.ref a, .ref x]) Q E s := by
  obtain ⟨o, ho, hex, hd⟩ := R.ob
  have ty : s.TypeIs (.ref a) "set" := ⟨o, ho, hex.1⟩
  refine wpAny_call_entry F.slot_set_add ty F.entry_set_add ?_ (F.args_set_add_2 _ _)
  unfold Builtin.«set.add» Builtin.Frozenset.oneOther
  simp only [List.isEmpty_nil, bind_assoc]
  unfold Builtin.Frozenset.addrOf setAdd
  refine wpAny_bind (wpAny_pure ?_)
  try dsimp only
  refine wpAny_bind (wpAny_pure ?_)
  try dsimp only
  refine wpAny_bind ?_
  refine wpAny_holding ?_
  have hu1 : A.in1.units < cLine := by
    show A.units + 1 < cLine
    exact hu
  refine wpAny_bind (wpAny_pyHash_tuple hu1 hx ?_)
  refine add_at (s := { s with toks := s.toks + (k.length + 1) }) R hx hu1 few fun b h' L' es' ep' t' sb R' c1 c2 => ?_
  show wpAny _ _ (ret Value.none) _ _ _
  exact wpAny_pure ⟨_, rfl, hQ h' L' _ sb R'.t0 c1 c2⟩
end
end GS
/-! the same over the layer -/
namespace GS
open PySem PySem.Spec PyProof.Rows L2
section
variable {X : Cx}
theorem putT_ok {pins : List (Addr × Obj)} {σ : L2.St} {H : Hp} {s : Shared} {E : Value → Shared → Prop} {D x : Addr} {k : List Int} {L : List (Addr × List Int)} {Q : Value → Shared → Prop} (I : Inv X pins σ H s) (hu : X.A.units + 1 < cLine)
    (hD : H D = some (SetTO X.prog X.w D L)) (ht : ∀ p ∈ L, SqT X.K H p.1 (p.2.map V.int)) (hx : SqT X.K H x (k.map V.int)) (few : L.length + 1 < 64)
    (h : ∀ L' s', (k ∈ L.map (·.2) → L' = L) → (k ∉ L.map (·.2) → L'.Perm ((x, k) :: L)) → Inv X pins σ (upd H D (SetTO X.prog X.w D L')) s' → Q .none s') :
    wpAny (model X.prog X.w) X.A (call (.builtin "set.add") [.ref D, .ref x]) Q E s := by
  have R0 : SetT0 X.prog X.w s.heap D L := (I.hok D _ hD).1
  obtain ⟨es, ep, t, R⟩ := R0.full fun p hp => I.isT (ht p hp)
  refine put_tup R (I.isT hx) hu few fun h' L' tk sb new c1 c2 => ?_
  have he : ∃ u, h'.get? D = some u := by
    obtain ⟨es', ep', t', ⟨o, ho, _⟩, _⟩ := new.ex
    exact ⟨o, ho⟩
  exact h L' _ c1 c2 (I.write (e := D) (t' := tk) (by rw [hD]; trivial) (.inl rfl) (fun b u hb hu => (sb.2 b hb).trans hu) he (setTO_new new))
end
end GS
/-! a set comprehension whose values are tuples of whole numbers -/
namespace GS
open PySem PySem.Spec PyProof.Rows L2 PpSet
section
variable {X : Cx}
/-- each turn hands in a tuple x that holds k; L: what the set holds -/
def tScT (P : Program) (w : World) (K : PySem.W.Frag) (wi : TI) (g : TG) (tt : TT) (te : TE) (vs : List Nat) : TE := fun σ H Q => wi σ H fun J H1 => ∀ A, H1 A = none → ∃ W : Nat → Nat → Hp → Prop, (∃ m, W 0 m (upd H1 A (SetTO P w A []))) ∧ ∀ i m H, W i m H →
  (J.stop i H ∧ Q (.ref A) H) ∨ (J.go i H ∧ ∃ Nx : Hp → Prop, (∀ H', Nx H' → ∃ m', m' < m ∧ W (i + 1) m' H') ∧ ∀ x H', J.yld i H x H' → g x (wipe σ vs) H' fun σ2 H2 => wipe σ2 vs = wipe σ vs ∧ tt σ2 H2 fun b H3 =>
    if b = true then te σ2 H3 fun y H4 => ∃ (x : Addr) (k : List Int) (L : List (Addr × List Int)), y = .ref x ∧ H4 A = some (SetTO P w A L) ∧ (∀ p ∈ L, SqT K H4 p.1 (p.2.map V.int)) ∧ SqT K H4 x (k.map V.int) ∧ L.length + 1 < 64 ∧
      ∀ L', (k ∈ L.map (·.2) → L' = L) → (k ∉ L.map (·.2) → L'.Perm ((x, k) :: L)) → Nx (upd H4 A (SetTO P w A L')) else Nx H3)
theorem scT_core {pq : List (Addr × Obj)} {t : Shared} {τ : L2.St} {G : Hp} {R : VK} {el tr src : Expr} {cs : List Expr} {sco : Scope} {ow : List (PySem.Str × Nat)} {ps ps' : Pos} {ww : TI} {gg : TG} {tq : TT} {tv : TE} {use : Option (Value → Sem Unit)} {Rf : Value → Shared → Prop}
    (hu : X.A.units + 1 < cLine) (calm : X.calm = true) (ndN : X.N.Nodup) (J0 : Inv X pq τ G t) (pi : PI X tr src ww) (bo : BlkOk X.N X.env.scope sco ow)
    (pgg : ∀ (t : Shared) (G : Hp) (C0 : Addr) (cl0 : List (PySem.Str × Addr)) (fq : List Addr), PG (X.blk t G sco (compEnvC sco cl0 C0 X.env) fq) tr gg) (ptt : ∀ (t : Shared) (G : Hp) (C0 : Addr) (cl0 : List (PySem.Str × Addr)) (fq : List Addr), PTs (X.blk t G sco (compEnvC sco cl0 C0 X.env) fq) cs tq)
    (pee : ∀ (t : Shared) (G : Hp) (C0 : Addr) (cl0 : List (PySem.Str × Addr)) (fq : List Addr), PE (X.blk t G sco (compEnvC sco cl0 C0 X.env) fq) el tv) (fol : ∀ xx, foldedSetIterable src X.env xx = pure xx)
    (rd : tScT X.prog X.w X.K ww gg tq tv (ow.map (·.2)) τ G R)
    (lv : ∀ A0 C0 t' mm G', Inv X pq τ G' t' → R (.ref A0) G' → t'.heap.Ns C0 mm → FpOk X pq G' C0 → compPost (model X.prog X.w) X.A X.xe use Rf (.ref A0) C0 (.ok .next) t') :
    wpAny (model X.prog X.w) X.A (comprehension (.SetComp el [⟨tr, src, cs, 0⟩] sco ps) sco X.env ps' (newSet (.type "set")) false (eval src X.env) use) Rf X.xe t := by
  have frr : ∀ yy ∈ sco.names, yy.2 = .free → ∃ cc, X.env.cells.lookup yy.1 = some cc := fun yy hy q0 => by
    rcases bo.free yy hy q0 with kk | kk
    · exact J0.ok.has _ (.inl kk)
    · exact J0.ok.has _ (.inr kk)
  refine wpAny_comprehension_free (use := use) rfl fol (closure_ok frr) bo.kind (fun yy hy q0 => by rw [bo.uniq yy hy, q0])
    (thn (pi.run pq t τ G _ J0 rd) fun xa t1 hx => thn hx fun iv t2 h2 => ?_)
  obtain ⟨ia, fq, st0, Jt, G2, q0, J2, Tn, sn2, fo2, z0⟩ := h2
  subst q0
  refine newSet_ok (newEnv_comp ?_)
  generalize eA : t2.heap.objs.size = A0
  have nA : G2 A0 = none := J2.hok.fresh (Nat.le_of_eq eA)
  obtain ⟨Wt, ⟨k0w, ww0⟩, tun⟩ := z0 A0 nA
  -- the new list
  generalize et3 : ({ t2 with heap := t2.heap.push { cls := .type "set", dict := none, data := .set #[] 0 (.fresh 0 0 (!X.w.params.followText "set-order")) } } : Shared) = t3
  have J3 : Inv X pq τ (upd G2 A0 (SetTO X.prog X.w A0 [])) t3 := by
    rw [← et3]
    refine J2.laid (t' := t2.toks) (fun bb oo q0 => Heap.get?_push_of_some _ q0) (Nat.le_of_eq eA) ?_
    rw [← eA]
    exact setTO_new (setTR_fresh (Heap.get?_push_size _ rfl)).t0
  have eh3 : t3.heap = t2.heap.push { cls := .type "set", dict := none, data := .set #[] 0 (.fresh 0 0 (!X.w.params.followText "set-order")) } := by rw [← et3]
  have siz : ∀ bb ∈ fq, bb < t2.heap.objs.size := fun bb hbb => by
    obtain ⟨oo, q0, _⟩ := Tn.obj _ _ sn2 bb hbb
    exact Heap.lt_size q0
  have fo3 : ∀ bb ∈ fq, FpOk X pq (upd G2 A0 (SetTO X.prog X.w A0 [])) bb ∧ bb < t3.heap.objs.size := fun bb hbb => by
    have hl7 := siz bb hbb
    refine ⟨⟨?_, (fo2 bb hbb).2⟩, by rw [eh3, Heap.size_push]; exact Nat.lt_succ_of_lt hl7⟩
    rw [upd_ne (by rw [← eA]; exact Nat.ne_of_lt hl7)]
    exact (fo2 bb hbb).1
  have sn3 : st0 0 t3.heap := Tn.keep _ _ _ sn2 fun bb _ oo q0 => by rw [eh3]; exact Heap.get?_push_of_some _ q0
  have J4 := block_start J3 bo ndN fo3
  have qg := pgg t3 (upd G2 A0 (SetTO X.prog X.w A0 [])) t3.heap.objs.size (cellsFrom (t3.heap.objs.size + 1) sco.names (cloFrom X.env.cells sco.names [])) fq
  have qt := ptt t3 (upd G2 A0 (SetTO X.prog X.w A0 [])) t3.heap.objs.size (cellsFrom (t3.heap.objs.size + 1) sco.names (cloFrom X.env.cells sco.names [])) fq
  have qe := pee t3 (upd G2 A0 (SetTO X.prog X.w A0 [])) t3.heap.objs.size (cellsFrom (t3.heap.objs.size + 1) sco.names (cloFrom X.env.cells sco.names [])) fq
  show codeAny _ _ (.compStart (.SetComp el [⟨tr, src, cs, 0⟩] sco ps) 0 (.ref ia) (.ref A0) (compEnvC sco (cellsFrom (t3.heap.objs.size + 1) sco.names (cloFrom X.env.cells sco.names [])) t3.heap.objs.size X.env)) (compPost (model X.prog X.w) X.A X.xe use Rf (.ref A0) t3.heap.objs.size) { t3 with heap := pushCells (t3.heap.push { cls := .type "dict", data := .dict #[] }) sco.names }
  have nfq : ∀ bb ∈ fq, (upd G2 A0 (SetTO X.prog X.w A0 [])) bb = none := fun bb hbb => (fo3 bb hbb).1.1
  generalize ece : compEnvC sco (cellsFrom (t3.heap.objs.size + 1) sco.names (cloFrom X.env.cells sco.names [])) t3.heap.objs.size X.env = ev at J4 qg qt qe ⊢
  have evL : ev.locals = t3.heap.objs.size := by subst ece; rfl
  generalize eG3 : upd G2 A0 (SetTO X.prog X.w A0 []) = G3 at J3 J4 qg qt qe ww0 nfq fo3
  generalize et4 : ({ t3 with heap := pushCells (t3.heap.push { cls := .type "dict", data := .dict #[] }) sco.names } : Shared) = t4 at J4 ⊢
  have sn4 : st0 0 t4.heap := Tn.keep _ _ _ sn3 fun bb _ oo q0 => by rw [← et4]; exact pushCells_keeps _ _ _ _ (Heap.get?_push_of_some _ q0)
  have sta : ∀ {τ' : L2.St} {G' : Hp} {t' : Shared}, Inv (X.blk t3 G3 sco ev fq) [] τ' G' t' → (∀ bb ∈ fq, G' bb = none) → ∀ bb ∈ fq, FpOk (X.blk t3 G3 sco ev fq) [] G' bb := fun {τ' G' t'} J' ns0 bb hbb =>
    ⟨ns0 bb hbb, (J'.ok.exf bb hbb).1, J'.ok.exfs bb hbb, .inl hbb, fun xx cc q0 => (J'.ok.exf bb hbb).2 xx cc q0, fun pp hpp => absurd (show pp ∈ ([] : List (Addr × Obj)) ++ [] from hpp) (by simp)⟩
  have lop : codeAny (model X.prog X.w) X.A (.compLoop (.SetComp el [⟨tr, src, cs, 0⟩] sco ps) 0 (.ref ia) (.ref A0) ev) (compPost (model X.prog X.w) X.A X.xe use Rf (.ref A0) t3.heap.objs.size) t4 := by
    refine compLoopS_any (fun nn t' => ∃ ii G', Inv (X.blk t3 G3 sco ev fq) [] (wipe τ (ow.map (·.2))) G' t' ∧ st0 ii t'.heap ∧ (∀ bb ∈ fq, G' bb = none) ∧ Wt ii nn G') ?_ k0w ⟨0, G3, J4, sn4, nfq, ww0⟩
    rintro nn t5 ⟨ii, G5, J5, sn5, no5, ww5⟩
    rcases tun ii nn G5 ww5 with ⟨stp, zz⟩ | ⟨goo, Nq, hNq, stq⟩
    · have tdn := Tn.done (X.blk t3 G3 sco ev fq) rfl rfl rfl calm ii [] t5 _ G5 (fun _ _ => False) J5 (sta J5 no5) sn5 stp
      refine thnF tdn fun rr t6 ⟨er, J6⟩ => ?_
      subst er
      -- back in the def's context
      have J7 : Inv X pq τ G5 t6 := J3.call' (ch := fq) J6.os J6.base J6.hok J6.bare fun bb hbb => ⟨(fo3 bb hbb).1.2.2.2.1, (fo3 bb hbb).1.2.1, (fo3 bb hbb).1.2.2.2.2.1, (fo3 bb hbb).1.2.2.2.2.2⟩
      have nC0 : G5 t3.heap.objs.size = none := by
        have zq : G5 ev.locals = none := J6.free
        rw [evL] at zq
        exact zq
      obtain ⟨mm, ns0, _⟩ := J6.loc
      have ns0 : t6.heap.Ns ev.locals mm := ns0
      rw [evL] at ns0
      exact lv A0 t3.heap.objs.size t6 mm G5 J7 zz ns0 (J3.fpOk (Nat.le_refl _) nC0)
    · have tit := Tn.item (X.blk t3 G3 sco ev fq) rfl rfl rfl calm ii [] t5 _ G5 (fun _ _ => False) J5 (sta J5 no5) sn5 goo
      refine thnF tit fun rr t6 ⟨uu, er, rd6⟩ => ?_
      subst er
      refine thnF rd6 fun _ t7 ⟨xx, G7, J7, rr7, yy7, sn7, no7⟩ => ?_
      have J7' := J7.pinned (sta J7 no7) (Tn.obj _ _ sn7)
      refine thnF (qg.run _ t7 _ G7 xx uu _ J7' rr7 (stq xx G7 yy7)) fun _ t8 ⟨τ8, G8, J8, ew8, z8⟩ => ?_
      refine thnF (qt.run _ t8 τ8 G8 _ J8 z8) fun bb t9 ⟨G9, J9, z9⟩ => ?_
      -- the turn's end
      have fen : ∀ {t' : Shared} {G' : Hp}, Inv (X.blk t3 G3 sco ev fq) ([] ++ pinsAt fq t7.heap) τ8 G' t' → Nq G' → ∃ mm, mm < nn ∧ ∃ ii G', Inv (X.blk t3 G3 sco ev fq) [] (wipe τ (ow.map (·.2))) G' t' ∧ st0 ii t'.heap ∧ (∀ bb ∈ fq, G' bb = none) ∧ Wt ii mm G' := fun {t' G'} J' nq => by
        obtain ⟨mm', hmm, ww'⟩ := hNq G' nq
        have pon' : ∀ bb ∈ fq, ∀ oo, t7.heap.get? bb = some oo → t'.heap.get? bb = some oo ∧ G' bb = none := fun bb hbb oo q0 =>
          let zq := J'.pin (bb, oo) (List.mem_append_right _ (List.mem_append_right _ (mem_pinsAt hbb q0)))
          ⟨zq.1, zq.2.1⟩
        have ell : (wipe τ (ow.map (·.2))).length = τ8.length := by rw [← ew8, wipe_length]
        refine ⟨mm', hmm, ii + 1, G', (J'.unpinned (pins := [])).weak ell (fun jj vv q0 => ?_), Tn.keep _ _ _ sn7 fun bb hbb oo q0 => (pon' bb hbb oo q0).1, fun bb hbb => ?_, ww'⟩
        · rw [← ew8] at q0
          exact (wipe_some q0).1
        · obtain ⟨oo, q0, _⟩ := Tn.obj _ _ sn7 bb hbb
          exact (pon' bb hbb oo q0).2
      cases bb with
      | false =>
        simp only [Bool.false_eq_true, if_false] at z9 ⊢
        exact fen J9 z9
      | true =>
        simp only [if_true] at z9 ⊢
        refine thnF (qe.run _ t9 τ8 G9 _ J9 z9) fun zq t10 ⟨yw, G10, J10, rr10, x0, k0, L0, eyy, eA10, tL, tx, few, nq⟩ => ?_
        subst eyy
        cases (show zq = Value.ref x0 from rr10)
        exact putT_ok (X := X.blk t3 G3 sco ev fq) J10 hu eA10 tL tx few fun L1 t11 c1 c2 J11 => fen J11 (nq L1 c1 c2)
  exact codeAny_compStart_set lop (Tn.self X.A 0 _ _ _ sn4 lop)
theorem pe_scT {el tr src : Expr} {cs : List Expr} {sco : Scope} {ow : List (PySem.Str × Nat)} {ps : Pos} {ww : TI} {gg : TG} {tq : TT} {tv : TE} (hu : X.A.units + 1 < cLine) (calm : X.calm = true) (ndN : X.N.Nodup) (pi : PI X tr src ww) (bo : BlkOk X.N X.env.scope sco ow)
    (pgg : ∀ (t : Shared) (G : Hp) (C0 : Addr) (cl0 : List (PySem.Str × Addr)) (fq : List Addr), PG (X.blk t G sco (compEnvC sco cl0 C0 X.env) fq) tr gg) (ptt : ∀ (t : Shared) (G : Hp) (C0 : Addr) (cl0 : List (PySem.Str × Addr)) (fq : List Addr), PTs (X.blk t G sco (compEnvC sco cl0 C0 X.env) fq) cs tq)
    (pee : ∀ (t : Shared) (G : Hp) (C0 : Addr) (cl0 : List (PySem.Str × Addr)) (fq : List Addr), PE (X.blk t G sco (compEnvC sco cl0 C0 X.env) fq) el tv) (fol : ∀ xx, foldedSetIterable src X.env xx = pure xx := by intro _; rfl) :
    PE X (.SetComp el [⟨tr, src, cs, 0⟩] sco ps) (tScT X.prog X.w X.K ww gg tq tv (ow.map (·.2))) := by
  refine ⟨fun pq t τ G R J0 rd => ?_⟩
  rw [eval_SetComp]
  refine scT_core hu calm ndN J0 pi bo pgg ptt pee fol rd fun A0 C0 t' mm G' J' z0 ns0 ff0 => ⟨mm, ns0, fun rd'' sbb => ?_⟩
  obtain ⟨a0, a1, fo2, fo3, a4, a5⟩ := ff0
  exact ⟨.ref A0, G', J'.turned (t' := t'.toks) (fun bb oo hbb q0 => (sbb.2 bb hbb).trans q0) a0 a1 fo3 a4 a5, rfl, z0⟩
end
end GS
/-! enumerate of a tuple; any, all of whole numbers -/
namespace PySem
open Sem (wp)
theorem enumNewT {v : Value} {o : Obj} {G : Heap → Prop} (B : Begins v o G) :
    Meets (Builtin.«enumerate.__new__» ⟨[.type "enumerate", v], []⟩) (fun _ R t => G t.heap ∧
      R (.ok (.ret (.ref (t.heap.push o).objs.size))) { t with heap := (t.heap.push o).push { cls := .type "enumerate", data := .fields #[.none, .bool false, .ref t.heap.objs.size, rawInt 0, .none, .none] } }) :=
  .of_wp fun prog w A R t z => by
    obtain ⟨hp, g, d, tk, os⟩ := t
    obtain ⟨z1, z⟩ := z
    have hsub := sub_enumerate
    have it1 : ∀ {A' : Around} {E : Value → Shared → Prop} {Q : Value → Shared → Prop}, Q (.ref hp.objs.size) ⟨hp.push o, g, d, tk, os⟩ → wpAny (model prog w) A' (pyIter v) Q E ⟨hp, g, d, tk, os⟩ :=
      fun q => B.iter prog w _ _ ⟨hp, g, d, tk, os⟩ _ z1 q
    wp_walk using it1
    refine wpAny_stack_any fun st => wpAny_pure ?_
    split
    · rename_i c _ _ _ _ _
      cases (c == Value.type "enumerate") <;> (wp_walk using it1; exact ⟨_, rfl, z⟩)
    · wp_walk using it1
      exact ⟨_, rfl, z⟩
section
variable {prog : Program} {w : World} {A : Around} {E : Value → Shared → Prop} {s : Shared}
theorem enumBegins {v : Value} {o : Obj} {G : Heap → Prop} {Q : Value → Shared → Prop} (B : Begins v o G) (g1 : G s.heap)
    (h : ∀ h', IsEnum h' (s.heap.objs.size + 1) s.heap.objs.size 0 .none → h'.get? s.heap.objs.size = some o → (∀ b u, s.heap.get? b = some u → h'.get? b = some u) → Q (.ref (s.heap.objs.size + 1)) { s with heap := h' }) :
    wpAny (model prog w) A (call (.type "enumerate") [v]) Q E s := by
  refine callType_new F.called_enumerate (by decide) (F.typeCall_enumerate_1 _) (F.newCall_enumerate_1 _) (fun obj => F.args_object_init_2 obj _) F.entry_enumerate_new (enumNewT B) ⟨g1, ?_⟩
  have sz1 : (s.heap.push o).objs.size = s.heap.objs.size + 1 := Heap.size_push ..
  show _ ∧ _
  rw [sz1]
  have en : IsEnum ((s.heap.push o).push { cls := .type "enumerate", data := .fields #[.none, .bool false, .ref s.heap.objs.size, rawInt 0, .none, .none] }) (s.heap.objs.size + 1) s.heap.objs.size 0 .none := by
    have z := Heap.get?_push_size (s.heap.push o) (o := { cls := .type "enumerate", data := .fields #[.none, .bool false, .ref s.heap.objs.size, rawInt 0, .none, .none] }) rfl
    rw [sz1] at z
    exact z
  exact ⟨⟨_, en, rfl⟩, h _ en (Heap.get?_push_of_some _ (Heap.get?_push_size _ B.free)) fun b u x => Heap.get?_push_of_some _ (Heap.get?_push_of_some _ x)⟩
end
end PySem
namespace L2
open PySem PySem.Spec PyProof.Rows
/-- a tuple as it stands, its items in new pairs -/
def IteT (K : PySem.W.Frag) (a : Addr) : It :=
  ⟨fun i H => ∃ (ys : List V) (y : V), SqT K H a ys ∧ ys[i]? = some y, fun i H v G => ∃ T y, v = .ref T ∧ H T = none ∧ G = upd H T (.tup [.int (i : Nat), y]) ∧ ∀ ys, SqT K H a ys → ys[i]? = some y, fun i H => ∃ ys : List V, SqT K H a ys ∧ ys.length = i⟩
theorem turn_enumT {P : Program} {w : World} {K : PySem.W.Frag} {elts : List Expr} {kk : Nat} {tpos : Pos} (a e it : Addr) :
    Turn P w K (.Tuple elts kk tpos) (IteT K a) [e, it] e (fun i h => (∃ old, IsEnum h e it ((i : Nat) : Int) old) ∧ h.IsTupleIter it a i ∧ e ≠ it) where
  mem := by simp
  obj := fun i h st b hb => by
    obtain ⟨⟨old, z1⟩, ⟨o, ho, hc, hd⟩, _⟩ := st
    rcases (show b = e ∨ b = it by simpa using hb) with z | z
    · rw [z]; exact ⟨_, z1, fun v q => nomatch q⟩
    · rw [z]; exact ⟨o, ho, fun v q => by rw [hd] at q; cases q⟩
  keep := fun i h h' st k => by
    obtain ⟨⟨old, z1⟩, z2, z3⟩ := st
    exact ⟨⟨old, k e (by simp) _ z1⟩, z2.at fun o q => k it (by simp) o q, z3⟩
  item := by
    intro X hP hw hK hc i pins s σ H E I hf st hg
    subst hP hw hK
    obtain ⟨⟨old, z1⟩, z2, z3⟩ := st
    obtain ⟨ys, y, hq, hy⟩ := hg
    obtain ⟨its, rv, p, hz⟩ := I.tuple hq
    obtain ⟨u, hu, ru⟩ := rv.get hy
    have p' : s.heap.IsTuple a its.toArray := p
    have ane : a ≠ it := fun z => by
      obtain ⟨o1, e1, c1, _⟩ := p'
      obtain ⟨o2, e2, c2, _⟩ := id z2
      rw [z, e2] at e1
      cases e1
      rw [c2] at c1
      exact absurd c1 (by decide)
    have lt1 : i < its.toArray.size := by
      have z4 := (List.getElem?_eq_some_iff.mp hu).1
      rw [List.size_toArray]
      exact z4
    have le : e < s.heap.objs.size := Heap.lt_size z1
    have li : it < s.heap.objs.size := by
      obtain ⟨_, q, _⟩ := z2
      exact Heap.lt_size q
    have eef : e ∉ [it, a] := fun hm => by
      rcases (show e = it ∨ e = a by simpa using hm) with z | z
      · exact z3 z
      · obtain ⟨o1, e1, c1, _⟩ := p'
        rw [← z, z1] at e1
        cases e1
        exact absurd (show Value.type "enumerate" = Value.type "tuple" from c1) (by decide)
    refine wpAny_pyNext_enum_itemC (Draws.tuple (A := X.A.in1) (I.ok.hd hc) it a ane its.toArray) z1 ⟨z2, p'⟩ lt1 z3 eef fun x h' tk hx ho st' hT hsz hk => ?_
    have ex : x = u := by
      have z5 : its.toArray[i]? = some x := hx
      rw [List.getElem?_toArray, hu] at z5
      exact (Option.some.inj z5).symm
    subst ex
    refine ⟨_, rfl, wpAny_letOwnedTupleGo_enum (s := { s with heap := h', toks := tk + 1 }) ho fun h'' he' sb => ?_⟩
    have hT2 : h''.get? s.heap.objs.size = some { cls := .type "tuple", data := .seq #[.int i tk, x] } := (sb.2 _ (Nat.ne_of_gt le)).trans hT
    have new : ObjOk X.prog X.w (upd H s.heap.objs.size (.tup [.int (i : Nat), y])) h'' s.heap.objs.size (.tup [.int (i : Nat), y]) :=
      ⟨by show 2 ≤ sizeLine; decide, [.int i tk, x], .cons ⟨_, rfl⟩ (.cons ru .nil), ⟨_, hT2, rfl, _, rfl⟩⟩
    have I1 : Inv X pins σ (upd H s.heap.objs.size (.tup [.int (i : Nat), y])) { s with heap := h'', toks := tk + 1 } :=
      I.turnedNew (ch := [e, it]) (fun b ob hb q => (sb.2 b (fun z => hb (by simp [z]))).trans (hk b ob (fun z => hb (by simp [z])) (fun z => hb (by simp [z])) q)) hf (Nat.le_refl _) new
    refine ⟨.ref s.heap.objs.size, _, I1, rfl, ⟨_, y, rfl, I.hok.fresh (Nat.le_refl _), rfl, fun l hl => by rw [I.tuple_inj hl hq]; exact hy⟩, ⟨⟨x, ?_⟩, st'.1.at fun o q => (sb.2 it (Ne.symm z3)).trans q, z3⟩, fun b hb => ?_⟩
    · have e1 : ((i + 1 : Nat) : Int) = (i : Int) + 1 := by omega
      rw [e1]
      exact he'
    · have lb : b < s.heap.objs.size := by
        rcases (show b = e ∨ b = it by simpa using hb) with z | z
        · rw [z]; exact le
        · rw [z]; exact li
      rw [upd_ne (Nat.ne_of_lt lb)]
      exact (hf b hb).1
  done := by
    intro X hP hw hK hc i pins s σ H E I hf st hg
    subst hP hw hK
    obtain ⟨⟨old, z1⟩, z2, z3⟩ := st
    obtain ⟨ys, hq, hx⟩ := hg
    obtain ⟨its, rv, p, hz⟩ := I.tuple hq
    obtain ⟨f0, f1, f2, f3, f4, f5⟩ := hf it (by simp)
    have hl := rv.length
    have p' : s.heap.IsTuple a its.toArray := p
    have ane : a ≠ it := fun z => by
      obtain ⟨o1, e1, c1, _⟩ := p'
      obtain ⟨o2, e2, c2, _⟩ := id z2
      rw [z, e2] at e1
      cases e1
      rw [c2] at c1
      exact absurd c1 (by decide)
    have en : i = its.toArray.size := by
      rw [List.size_toArray, ← hl]
      exact hx.symm
    subst en
    exact wpAny_pyNext_enum_endD (Draws.tuple (A := X.A.in1) (I.ok.hd hc) it a ane its.toArray) z1 ⟨z2, p'⟩ fun h' eb => ⟨rfl, I.turned (t' := s.toks) (fun b o hb q => eb b o hb q) f0 f1 f3 f4 f5⟩
  self := fun A i s Q E st h => let ⟨⟨_, z1⟩, _⟩ := st; wpAny_pyIter_enum z1 h
def iEnumT (K : PySem.W.Frag) (ta : TA) : TI := fun σ H R => ta σ H fun vs H1 => ∃ a xs, vs = [.ref a] ∧ SqT K H1 a xs ∧ R (IteT K a) H1
theorem pi_enumT {X : Cx} {e : Expr} {ta : TA} {p pos tpos : Pos} {elts : List Expr} {kk : Nat} (hg : Gl X "enumerate") (hm : X.mg "enumerate" = none) (ha : PA X [e] ta) (hs : starEach [e] X.env = [(false, eval e X.env)] := by rfl) :
    PI X (.Tuple elts kk tpos) (.Call (.Name "enumerate" p) [e] [] pos) (iEnumT X.K ta) := by
  refine ⟨fun pins s σ H R I h => ?_⟩
  refine Call_ (ld_blt I hg hm boot_enumerate (PyProof.Rows.callWith_type1 (thn (ha.run pos pins s σ H _ I h) fun us s1 ⟨vs, H1, I1, r1, q1⟩ => ?_) hs rfl))
  obtain ⟨a, xs, ex, hq, q⟩ := q1
  subst ex
  cases r1 with
  | cons r rr =>
    cases rr
    cases r
    obtain ⟨its, rv, p', hz⟩ := I1.tuple hq
    refine enumBegins (begins_tuple a its.toArray) (show s1.heap.IsTuple a its.toArray from p') fun h' he hit hk => wpAny_pyIter_enum he ?_
    have I2 : Inv X pins σ H1 { s1 with heap := h' } := I1.kept (t' := s1.toks) hk
    refine ⟨s1.heap.objs.size + 1, [s1.heap.objs.size + 1, s1.heap.objs.size], _, _, H1, rfl, I2, turn_enumT a (s1.heap.objs.size + 1) s1.heap.objs.size, ⟨⟨.none, he⟩, ⟨_, hit, rfl, rfl⟩, Nat.succ_ne_self _⟩, fun b hb => ?_, q⟩
    have le : s1.heap.objs.size ≤ b := by
      rcases (show b = s1.heap.objs.size + 1 ∨ b = s1.heap.objs.size by simpa using hb) with z | z
      · rw [z]; exact Nat.le_add_right _ _
      · rw [z]; exact Nat.le_refl _
    exact I1.fpOk le (I1.hok.fresh le)
/-! any(t), all(xs) of whole numbers -/
theorem truth_ints {prog : Program} {w : World} {A : Around} : ∀ {ns : List Int} {its : List Value}, Vals (ns.map V.int) its →
    TruthOf prog w A (fun i v => its.toArray[i]? = some v) (fun i => ns.getD i 0 != 0) := fun {ns its} rv i v s Q E hv hq => by
  have hv' : its[i]? = some v := by simpa using hv
  have hl := rv.length
  rw [List.length_map] at hl
  have hi : i < ns.length := by
    have := (List.getElem?_eq_some_iff.mp hv').1
    omega
  obtain ⟨u, hu, ru⟩ := rv.get (show (ns.map V.int)[i]? = some (.int ns[i]) by rw [List.getElem?_map, List.getElem?_eq_getElem hi]; rfl)
  rw [hu] at hv'
  cases hv'
  obtain ⟨t, rfl⟩ := ru
  have hg : ns.getD i 0 = ns[i] := by rw [List.getD_eq_getElem?_getD, List.getElem?_eq_getElem hi] <;> rfl
  have hq' : Q (ns.getD i 0 != 0) s := hq
  rw [hg] at hq'
  exact truthy_int hq'
theorem getD_range {f : Int → Bool} : ∀ ns : List Int, (List.range ns.length).map (fun i => f (ns.getD i 0)) = ns.map f
  | [] => rfl
  | b :: ns => by
    rw [List.length_cons, List.range_succ_eq_map, List.map_cons, List.map_map, List.map_cons, ← getD_range ns]
    rfl
section
variable {X : Cx}
def rAnyI (K : PySem.W.Frag) : List V → Hp → VK → Prop := fun vs H Q => ∃ (a : Addr) (ns : List Int), vs = [V.ref a] ∧ SqT K H a (ns.map V.int) ∧ Q (.bl (ns.any (· != 0))) H
def rAllI (K : PySem.W.Frag) : List V → Hp → VK → Prop := fun vs H Q => ∃ (a : Addr) (ns : List Int), vs = [V.ref a] ∧ SqL K H a (ns.map V.int) ∧ Q (.bl (ns.all (· != 0))) H
theorem cr_anyI (hc : X.calm = true) : CallR X (.builtin "any") (rAnyI X.K) := by
  intro pins s σ H vs us Q I r h
  obtain ⟨a, ns, rfl, hs, q⟩ := h
  obtain ⟨its, rv, p, _⟩ := I.tuple hs
  rw [Vals.ref1 r]
  have p' : s.heap.IsTuple a its.toArray := p
  have la : a < s.heap.objs.size := p.lt
  refine call_any_walk (wpAny_pyIter_tuple p' ⟨_, _, _, _, _, _, _, rfl, Walks.tuple (A := X.A.in1) (I.ok.hd hc) _ a (Nat.ne_of_lt la) its.toArray, ⟨⟨_, Heap.get?_push_size _ rfl, rfl, rfl⟩, p'.push _⟩, truth_ints rv, fun h' tk hk => ?_⟩)
  refine ⟨.bl _, H, I.kept fun b o eo => hk b o (fun hmem => ?_) (Heap.get?_push_of_some _ eo), ?_, q⟩
  · rw [List.mem_singleton.mp hmem] at eo
    exact absurd (Heap.lt_size eo) (Nat.lt_irrefl _)
  · show Value.bool _ = Value.bool _
    have e := getD_range (f := (· != 0)) ns
    have hl := rv.length
    rw [List.length_map] at hl
    rw [List.size_toArray, ← hl, show ns.any (· != 0) = (ns.map (· != 0)).any id by rw [List.any_map]; rfl, ← e, List.any_map]
    rfl
theorem cr_allI (hc : X.calm = true) : CallR X (.builtin "all") (rAllI X.K) := by
  intro pins s σ H vs us Q I r h
  obtain ⟨a, ns, rfl, hs, q⟩ := h
  obtain ⟨its, rv, hl, _⟩ := I.list hs
  rw [Vals.ref1 r]
  refine call_all_walk (iter_any hl.isList fun s₂ e2 st hne => ?_)
  subst e2
  refine ⟨_, _, _, _, _, _, _, rfl, Walks.list (A := X.A.in1) (I.ok.hd hc) _ a hne its.toArray, st, truth_ints rv, fun h' tk hk => ?_⟩
  refine ⟨.bl _, H, I.kept fun b o eo => hk b o (fun hmem => ?_) (Heap.get?_push_of_some _ eo), ?_, q⟩
  · rcases List.mem_cons.mp hmem with e1 | hmem
    · exact absurd (e1 ▸ Heap.lt_size eo) (Nat.lt_irrefl _)
    · cases hmem
  · show Value.bool _ = Value.bool _
    have e := getD_range (f := (· != 0)) ns
    have hl := rv.length
    rw [List.length_map] at hl
    rw [List.size_toArray, ← hl, show ns.all (· != 0) = (ns.map (· != 0)).all id by rw [List.all_map]; rfl, ← e, List.all_map]
    rfl
end
end L2
/-! the head of law_k53_orders_counted: what stands behind the top, told by names -/
namespace K3
open PySem PySem.Spec PyProof.Rows L2 He HX
abbrev R : PySem.W.OpenRow := PySem.W.OpenLaw.row PySem.Challenge.rw_leastrows_k53_orders_counted
abbrev PR : Program := (PySem.Challenge.rw_leastrows_k53_orders_counted).prog
abbrev qv : Program := PySem.W.view R.prog [52]
def top (i : Nat) : Stmt := PySem.Challenge.pw_leastrows_k53_orders_counted.main.body.getD i (.Pass ⟨0, 0, 0, 0⟩)
/-- the function under a static method -/
def sa (K : PySem.W.Frag) (C : Addr) (m : Str) : Addr := match PySem.W.findIn K (.ref C) m with
  | some (some (.ref p)) => (match PySem.W.recIn K p "staticmethod" with
    | some (.ref g :: _) => g
    | _ => 0)
  | _ => 0
inductive Pa where
  | g (x : Str)
  | m (C x : Str)
  | s (C x : Str)
def Pa.at (K : PySem.W.Frag) : Pa → Addr
  | .g x => ga K x
  | .m C x => ma K (ga K C) x
  | .s C x => sa K (ga K C) x
structure DX where
  pa : Pa
  name : Str
  qual : Str
  st : Stmt
  dfl : List Dv := []
  cl : List Str := []
abbrev VX : Type := Option (Str × Str × Arguments × FuncBody × Scope × Addr × List Str × Addr)
def fnV (K : PySem.W.Frag) (a : Addr) : VX := match K.lookup a with
  | some ⟨_, _, .func fd, _⟩ => some (fd.name, fd.qualname, fd.params, fd.body, fd.scope, fd.globals, fd.closure.map (·.1), fd.builtins)
  | _ => none
def fdA (K : PySem.W.Frag) (a : Addr) : FuncData := match K.lookup a with
  | some ⟨_, _, .func fd, _⟩ => fd
  | _ => default
def DX.val (d : DX) : VX := some (d.name, d.qual, defArgs d.st, .stmts (defBody d.st), defScope d.st, mainGlobals, d.cl, builtinsNs)
def DX.dvs (K : PySem.W.Frag) (d : DX) : List V := d.dfl.map (Dv.v K)
def DX.ok (K : PySem.W.Frag) (d : DX) : Bool := PySem.W.keepIn K (.ref (d.pa.at K)) && (match K.lookup (d.pa.at K) with
  | some ⟨_, _, .func fd, _⟩ => PySem.W.codeIn K fd.code d.qual && dflB K fd.defaults (d.dvs K)
  | _ => false)
theorem DX.funD {K : PySem.W.Frag} {d : DX} (hc : d.cl = []) (e : fnV K (d.pa.at K) = d.val) (c : d.ok K = true) : FunD K d.name d.qual (defArgs d.st) (defBody d.st) (defScope d.st) (d.dvs K) [] (d.pa.at K) (fdA K (d.pa.at K)) := by
  obtain ⟨kp, c2⟩ := ba c
  unfold fnV at e
  unfold fdA
  cases q : K.lookup (d.pa.at K) with
  | none =>
    rw [q] at c2
    cases c2
  | some o =>
    obtain ⟨oc, od, dt, osl⟩ := o
    rw [q] at c2 e
    cases dt with
    | func fd =>
      obtain ⟨n1, n2, n3, n4, n5, n6, n7, n8, n9, n10, n11, n12, n13, n14, n15⟩ := fd
      have e2 : (some (n1, n2, n3, n4, n5, n6, n7.map (·.1), n15) : VX) = some (d.name, d.qual, defArgs d.st, .stmts (defBody d.st), defScope d.st, mainGlobals, d.cl, builtinsNs) := e
      simp only [Option.some.injEq, Prod.mk.injEq] at e2
      obtain ⟨h1, h2, h3, h4, h5, h6, h7, h8⟩ := e2
      rw [hc] at h7
      have h7' : n7 = [] := List.map_eq_nil_iff.mp h7
      subst h1 h2 h3 h4 h5 h6 h7' h8
      obtain ⟨k1, k2⟩ := ba (show (PySem.W.codeIn K n13 d.qual && dflB K n8 (d.dvs K)) = true from c2)
      exact ⟨⟨oc, od, n8, n9, n10, n11, n12, n13, n14, osl, rfl, q, k1, dflB_ok k2, .inl rfl⟩, kp⟩
    | _ => cases c2
/-! ### error classes -/
def xcB (K : PySem.W.Frag) (C : Addr) : Bool := match K.lookup C with
  | some ⟨.type ty, _, .cls cd, sl⟩ => ty == "type" && (match cd.mro, sl.toList with
    | .ref C' :: bm, [_, _, _, _, some (.builtin n), _] => C' == C && n == "ValueError.__new__" && !cd.hasDel && cd.hasDict && PySem.HandSPX.refsVE bm
    | _, _ => false)
  | _ => false
def mroB (K : PySem.W.Frag) (C Lat : Addr) : Bool := decide ((PySem.W.clsIn K C).map (·.mro) = some (.ref C :: .ref Lat :: veBase))
/-- the class's __init__: its cell, its code -/
def initB (file : Str) (K : PySem.W.Frag) (C fI : Addr) : Bool := match K.lookup fI with
  | some ⟨_, _, .func fd, _⟩ => (match fd.closure, fd.code with
    | [(n, cc)], .ref cda => n == ("__class__" : Str) && (match K.lookup cc with
      | some ⟨_, _, .cell (some (.ref D)), _⟩ => D == C
      | _ => false) && (match K.lookup cda with
      | some ⟨_, _, .fields vs, _⟩ => (match (vs[2]? : Option Value) with
        | some (.str f _) => file == f
        | _ => false)
      | _ => false)
    | _, _ => false)
  | _ => false
def errB (file : Str) (K : PySem.W.Frag) (x : Str) : Bool :=
  xcB K (ga K x) && (decide (PySem.W.findIn K (.ref (ga K x)) "__setattr__" = some (some (.builtin "object.__setattr__"))) && (decide (PySem.W.subIn K (.ref (ga K x)) (.type "BaseException") = some true) &&
  (decide (PySem.W.typeIn K (.ref (ga K x)) = some (.type "type")) && (PySem.W.keepIn K (.ref (ga K x)) && (mroB K (ga K x) (ga K "LatticeError") && (initB file K (ga K x) (ma K (ga K x) "__init__") &&
  (decide (PySem.W.ks_superIn K (ga K x) (ga K x) "__init__" = some (some (.builtin "ValueError.__init__"))) && (decide (PySem.W.findIn K (.ref (ga K x)) "__getattribute__" = some (some (.builtin "BaseException.__getattribute__"))) &&
  (decide (PySem.W.findIn K (.ref (ga K x)) "__getattr__" = some none) && (PySem.W.hasDictIn K (ga K x) && (decide (PySem.W.findIn K (.ref (ga K x)) "__class__" = some (some (.builtin "object.__class__"))) &&
  (decide (PySem.W.findIn K (.ref (ga K x)) "__init__" = some (some (.ref (ma K (ga K x) "__init__")))) && decide (PySem.W.typeIn K (.ref (ma K (ga K x) "__init__")) = some (.type "function"))))))))))))))
/-! ### Frac -/
def statB (K : PySem.W.Frag) (C : Addr) (m : Str) : Bool := match PySem.W.findIn K (.ref C) m with
  | some (some (.ref p)) => (match PySem.W.findCls K (.ref C) (.type "type") m with
    | some (.get g a o t) => decide (g = .builtin "staticmethod.__get__") && (decide (a = .ref p) && (decide (o = .none) && decide (t = .ref C)))
    | _ => false) && (match PySem.W.recIn K p "staticmethod" with
    | some (.ref g :: _) => PySem.W.keepIn K (.ref g)
    | _ => false)
  | _ => false

def gloN0 : List PySem.Str := ["_wall", "copied", "LatticeError", "BadPlace", "BadCount", "BadTie", "Loose", "hanging", "joined_marks", "look_joined", "Web", "tree_and_free"]
def gloN1 : List PySem.Str := ["with_number", "ways_home", "base_flows", "flow_pairs", "bridges", "start_masks", "with_arc", "with_tie", "order_list", "orders", "plain_pairs", "order_count"]
def gloN2 : List PySem.Str := ["has_walks", "turn_list", "turns", "turn_count", "_law_pool", "_law_draw", "_law_int", "_law_row_is", "_law_web", "_law_marks", "_law_lots_are", "_law_ways"]
def gloN3 : List PySem.Str := ["_law_arcs", "_law_vanish", "_law_order_list", "_law_return", "_law_turn_list", "_law_orders_told", "_law_turns_told", "_law_try", "_law_loose_told", "_law_one_place", "_law_lesser_told", "law"]
def gloN : List PySem.Str := gloN0 ++ gloN1 ++ gloN2 ++ gloN3
def errN0 : List PySem.Str := ["BadPlace", "BadCount", "BadTie", "Loose"]
def errN : List PySem.Str := errN0
def freeN0 : List PySem.Str := ["isinstance", "list", "tuple", "super", "bool", "len", "int", "range", "zip", "enumerate", "sorted", "min"]
def freeN1 : List PySem.Str := ["max", "any", "all", "ValueError"]
def freeN : List PySem.Str := freeN0 ++ freeN1
def looseN0 : List PySem.Str := ["_wall", "__name__", "copied", "LatticeError", "BadPlace", "BadCount", "BadTie", "Loose", "hanging", "joined_marks", "look_joined", "Web"]
def looseN1 : List PySem.Str := ["tree_and_free", "with_number", "ways_home", "base_flows", "flow_pairs", "bridges", "start_masks", "with_arc", "with_tie", "order_list", "orders", "plain_pairs"]
def looseN2 : List PySem.Str := ["order_count", "has_walks", "turn_list", "turns", "turn_count", "_law_pool", "_law_draw", "_law_int", "_law_row_is", "_law_web", "_law_marks", "_law_lots_are"]
def looseN3 : List PySem.Str := ["_law_ways", "_law_arcs", "_law_vanish", "_law_order_list", "_law_return", "_law_turn_list", "_law_orders_told", "_law_turns_told", "_law_try", "_law_loose_told", "_law_one_place", "_law_lesser_told"]
def looseN : List PySem.Str := looseN0 ++ looseN1 ++ looseN2 ++ looseN3
def methN0 : List PySem.Str := ["together", "is_joined"]
def methN : List PySem.Str := methN0
def noN0 : List PySem.Str := ["places", "ties"]
def noN : List PySem.Str := noN0
def fldN0 : List (PySem.Str × PySem.Str) := [("BadPlace", "place"), ("BadCount", "count"), ("BadTie", "index"), ("Loose", "lot")]
def fldN : List (PySem.Str × PySem.Str) := fldN0
def d_copied : DX := { pa := .g "copied", name := "copied", qual := "copied", st := top 2, dfl := [] }
def d_hanging : DX := { pa := .g "hanging", name := "hanging", qual := "hanging", st := top 9, dfl := [] }
def d_joined_marks : DX := { pa := .g "joined_marks", name := "joined_marks", qual := "joined_marks", st := top 10, dfl := [] }
def d_look_joined : DX := { pa := .g "look_joined", name := "look_joined", qual := "look_joined", st := top 11, dfl := [] }
def d_Webd_initd : DX := { pa := .m "Web" "__init__", name := "__init__", qual := "Web.__init__", st := inClass (top 12) 0, dfl := [] }
def d_Web_together : DX := { pa := .m "Web" "together", name := "together", qual := "Web.together", st := inClass (top 12) 2, dfl := [] }
def d_Web_is_joined : DX := { pa := .m "Web" "is_joined", name := "is_joined", qual := "Web.is_joined", st := inClass (top 12) 3, dfl := [] }
def d_tree_and_free : DX := { pa := .g "tree_and_free", name := "tree_and_free", qual := "tree_and_free", st := top 14, dfl := [] }
def d_with_number : DX := { pa := .g "with_number", name := "with_number", qual := "with_number", st := top 15, dfl := [] }
def d_ways_home : DX := { pa := .g "ways_home", name := "ways_home", qual := "ways_home", st := top 16, dfl := [] }
def d_base_flows : DX := { pa := .g "base_flows", name := "base_flows", qual := "base_flows", st := top 17, dfl := [] }
def d_flow_pairs : DX := { pa := .g "flow_pairs", name := "flow_pairs", qual := "flow_pairs", st := top 18, dfl := [] }
def d_bridges : DX := { pa := .g "bridges", name := "bridges", qual := "bridges", st := top 19, dfl := [] }
def d_start_masks : DX := { pa := .g "start_masks", name := "start_masks", qual := "start_masks", st := top 21, dfl := [] }
def d_with_arc : DX := { pa := .g "with_arc", name := "with_arc", qual := "with_arc", st := top 22, dfl := [] }
def d_with_tie : DX := { pa := .g "with_tie", name := "with_tie", qual := "with_tie", st := top 23, dfl := [] }
def d_order_list : DX := { pa := .g "order_list", name := "order_list", qual := "order_list", st := top 24, dfl := [] }
def d_orders : DX := { pa := .g "orders", name := "orders", qual := "orders", st := top 25, dfl := [] }
def d_plain_pairs : DX := { pa := .g "plain_pairs", name := "plain_pairs", qual := "plain_pairs", st := top 26, dfl := [] }
def d_order_count : DX := { pa := .g "order_count", name := "order_count", qual := "order_count", st := top 27, dfl := [] }
def d_has_walks : DX := { pa := .g "has_walks", name := "has_walks", qual := "has_walks", st := top 28, dfl := [] }
def d_turn_list : DX := { pa := .g "turn_list", name := "turn_list", qual := "turn_list", st := top 29, dfl := [] }
def d_turns : DX := { pa := .g "turns", name := "turns", qual := "turns", st := top 30, dfl := [] }
def d_turn_count : DX := { pa := .g "turn_count", name := "turn_count", qual := "turn_count", st := top 31, dfl := [] }
def d__law_pool : DX := { pa := .g "_law_pool", name := "_law_pool", qual := "_law_pool", st := top 33, dfl := [] }
def d__law_draw : DX := { pa := .g "_law_draw", name := "_law_draw", qual := "_law_draw", st := top 34, dfl := [] }
def d__law_int : DX := { pa := .g "_law_int", name := "_law_int", qual := "_law_int", st := top 35, dfl := [] }
def d__law_row_is : DX := { pa := .g "_law_row_is", name := "_law_row_is", qual := "_law_row_is", st := top 36, dfl := [] }
def d__law_web : DX := { pa := .g "_law_web", name := "_law_web", qual := "_law_web", st := top 37, dfl := [] }
def d__law_marks : DX := { pa := .g "_law_marks", name := "_law_marks", qual := "_law_marks", st := top 38, dfl := [] }
def d__law_lots_are : DX := { pa := .g "_law_lots_are", name := "_law_lots_are", qual := "_law_lots_are", st := top 39, dfl := [] }
def d__law_ways : DX := { pa := .g "_law_ways", name := "_law_ways", qual := "_law_ways", st := top 40, dfl := [] }
def d__law_arcs : DX := { pa := .g "_law_arcs", name := "_law_arcs", qual := "_law_arcs", st := top 41, dfl := [] }
def d__law_vanish : DX := { pa := .g "_law_vanish", name := "_law_vanish", qual := "_law_vanish", st := top 42, dfl := [] }
def d__law_order_list : DX := { pa := .g "_law_order_list", name := "_law_order_list", qual := "_law_order_list", st := top 43, dfl := [] }
def d__law_return : DX := { pa := .g "_law_return", name := "_law_return", qual := "_law_return", st := top 44, dfl := [] }
def d__law_turn_list : DX := { pa := .g "_law_turn_list", name := "_law_turn_list", qual := "_law_turn_list", st := top 45, dfl := [] }
def d__law_orders_told : DX := { pa := .g "_law_orders_told", name := "_law_orders_told", qual := "_law_orders_told", st := top 46, dfl := [] }
def d__law_turns_told : DX := { pa := .g "_law_turns_told", name := "_law_turns_told", qual := "_law_turns_told", st := top 47, dfl := [] }
def d__law_try : DX := { pa := .g "_law_try", name := "_law_try", qual := "_law_try", st := top 48, dfl := [] }
def d__law_loose_told : DX := { pa := .g "_law_loose_told", name := "_law_loose_told", qual := "_law_loose_told", st := top 49, dfl := [] }
def d__law_one_place : DX := { pa := .g "_law_one_place", name := "_law_one_place", qual := "_law_one_place", st := top 50, dfl := [] }
def d__law_lesser_told : DX := { pa := .g "_law_lesser_told", name := "_law_lesser_told", qual := "_law_lesser_told", st := top 51, dfl := [] }
def d_law : DX := { pa := .g "law", name := "law", qual := "law", st := top 52, dfl := [] }
def x_BadPlace : DX := { pa := .m "BadPlace" "__init__", name := "__init__", qual := "BadPlace.__init__", st := inClass (top 4) 0, cl := ["__class__"] }
def x_BadCount : DX := { pa := .m "BadCount" "__init__", name := "__init__", qual := "BadCount.__init__", st := inClass (top 5) 0, cl := ["__class__"] }
def x_BadTie : DX := { pa := .m "BadTie" "__init__", name := "__init__", qual := "BadTie.__init__", st := inClass (top 6) 0, cl := ["__class__"] }
def x_Loose : DX := { pa := .m "Loose" "__init__", name := "__init__", qual := "Loose.__init__", st := inClass (top 7) 0, cl := ["__class__"] }
def dl0 : List DX := [d_copied, d_hanging, d_joined_marks, d_look_joined, d_Webd_initd, d_Web_together, d_Web_is_joined, d_tree_and_free, d_with_number, d_ways_home, d_base_flows, d_flow_pairs]
def dl1 : List DX := [d_bridges, d_start_masks, d_with_arc, d_with_tie, d_order_list, d_orders, d_plain_pairs, d_order_count, d_has_walks, d_turn_list, d_turns, d_turn_count]
def dl2 : List DX := [d__law_pool, d__law_draw, d__law_int, d__law_row_is, d__law_web, d__law_marks, d__law_lots_are, d__law_ways, d__law_arcs, d__law_vanish, d__law_order_list, d__law_return]
def dl3 : List DX := [d__law_turn_list, d__law_orders_told, d__law_turns_told, d__law_try, d__law_loose_told, d__law_one_place, d__law_lesser_told, d_law]
def el0 : List DX := [x_BadPlace, x_BadCount, x_BadTie, x_Loose]
def fn : List DX := dl0 ++ dl1 ++ dl2 ++ dl3 ++ el0
def file : Str := PR.main.file
def webB (K : PySem.W.Frag) : Bool := (Fa.cls "Web").ok K && ((Fa.mkr "Web").ok K && ((methN.all fun m => (Fa.meth "Web" m).ok K) && (noN.all fun m => (Fa.noat "Web" m).ok K)))
def genB (K : PySem.W.Frag) : Bool := decide (PySem.W.specialIn K (.builtin "object.__class__") "__get__" = some (some (.builtin "getset_descriptor.__get__"))) && (decide (PySem.W.takesIn K (.builtin "object.__class__") = some true) &&
  (decide (PySem.W.nsIn K PySem.cStatics "thirdparty.any" = some none) && (decide (((("LatticeError" : Str) :: errN).map (ga K)).Nodup) && (decide (PySem.W.typeIn K (.ref (ga K "LatticeError")) = some (.type "type")) && (PySem.W.clsIn K (ga K "LatticeError")).isSome))))
def fa : List (PySem.W.Frag → Bool) := [
  fun K => gloN.all fun x => (Fa.glo x).ok K,
  fun K => freeN.all fun x => (Fa.free x).ok K,
  fun K => errN.all fun x => errB file K x,
  fun K => fldN.all fun p => (Fa.noat p.1 p.2).ok K,
  webB,
  genB,
  fun K => decide (PySem.W.subIn K (.ref (ga K "LatticeError")) (.type "BaseException") = some true)]
abbrev AlX : Type := Bool × List VX
def obsX (K : PySem.W.Frag) : AlX := ((fa.all fun f => f K) && fn.all fun d => d.ok K, fn.map fun d => fnV K (d.pa.at K))
def valX : AlX := (true, fn.map DX.val)
def SaysX (K : PySem.W.Frag) : Prop := obsX K = valX
def adr0 : List Nat := [187, 186, 185, 184, 183, 188, 192, 180, 179, 178, 177, 176, 173, 172, 171, 170, 169, 166, 165, 164, 163, 162, 159, 158, 157, 156, 155, 152, 151, 150, 116, 115, 114, 113, 112, 95, 94, 93, 92, 91]
def adr1 : List Nat := [74, 73, 72, 71, 70, 53, 52, 51, 50, 49, 43, 54, 64, 75, 85, 96, 106, 117, 153, 160, 167, 174, 181, 190, 189, 418, 417, 416, 413, 412, 411, 408, 407, 406, 405, 404, 401, 400, 399, 396]
def adr2 : List Nat := [395, 394, 393, 392, 389, 388, 387, 386, 385, 382, 381, 380, 379, 378, 375, 374, 373, 370, 369, 368, 367, 366, 363, 362, 361, 358, 357, 356, 353, 352, 351, 350, 349, 346, 345, 344, 343, 342, 339, 338]
def adr3 : List Nat := [337, 336, 335, 332, 331, 330, 327, 326, 325, 324, 323, 320, 319, 318, 317, 316, 313, 312, 311, 310, 309, 306, 305, 304, 303, 302, 299, 298, 297, 294, 293, 292, 291, 290, 287, 286, 285, 284, 283, 280]
def adr4 : List Nat := [279, 278, 275, 274, 273, 270, 269, 268, 265, 264, 263, 260, 259, 258, 257, 256, 253, 252, 251, 248, 247, 246, 245, 244, 241, 240, 239, 236, 235, 234, 231, 230, 229, 226, 225, 224, 221, 220, 219, 216]
def adr5 : List Nat := [215, 214, 211, 210, 209, 208, 207, 204, 203, 202, 201, 200, 197, 196, 193, 191, 182, 175, 168, 161, 154, 140, 139, 138, 137, 136, 133, 132, 131, 128, 127, 126, 125, 124, 119, 118, 98, 97, 77, 76]
def adr6 : List Nat := [56, 55, 37, 34, 24, 23, 22, 19, 18, 17, 16, 15, 0, 20, 25, 35, 57, 78, 99, 120, 129, 134, 141, 194, 205, 212, 217, 222, 227, 232, 237, 242, 249, 254, 261, 266, 271, 276, 281, 288]
def adr7 : List Nat := [295, 300, 307, 314, 321, 328, 333, 340, 347, 354, 359, 364, 371, 376, 383, 390, 397, 402, 409, 414, 419, 420, 415, 410, 403, 398, 391, 384, 377, 372, 365, 360, 355, 348, 341, 334, 329, 322, 315, 308]
def adr8 : List Nat := [301, 296, 289, 282, 277, 272, 267, 262, 255, 250, 243, 238, 233, 228, 223, 218, 213, 206, 195, 142, 135, 130, 121, 100, 79, 58, 36, 26, 21, 4, 6, 3]
def adrs : List Nat := adr0 ++ (adr1 ++ (adr2 ++ (adr3 ++ (adr4 ++ (adr5 ++ (adr6 ++ (adr7 ++ (adr8))))))))
def kOf (g : Addr → Option Obj) : PySem.W.Frag := frG g (adrs ++ [PySem.cStatics])
def hk : PySem.W.Hook where
  α := AlX
  obs := fun s => obsX (kOf s.heap.get?)
  val := fun _ => valX
  says := fun _ h => ∃ K : PySem.W.Frag, K.In h ∧ SaysX K
  of := fun _ _ e => ⟨_, frG_in, e⟩
  keeps := fun _ _ _ ⟨K, hK, c⟩ k => ⟨K, PySem.W.Frag.In.keeps hK k, c⟩
def ob (s : PySem.W.SharedT) : AlX := obsX (kOf (HandSHeadRun.getT s))
theorem ob_eq (s : PySem.W.SharedT) : ob s = hk.obs s.abs := by
  have e : HandSHeadRun.getT s = s.abs.heap.get? := funext (HandSHeadRun.getT_eq s)
  show obsX (kOf (HandSHeadRun.getT s)) = obsX (kOf s.abs.heap.get?)
  rw [e]
theorem SaysX.fact {K : PySem.W.Frag} (c : SaysX K) (i : Nat) {f : PySem.W.Frag → Bool} (h : fa[i]? = some f := by rfl) : f K = true := by
  have c1 := (ba (show ((fa.all fun f => f K) && fn.all fun d => d.ok K) = true from congrArg (fun z : AlX => z.1) c)).1
  exact List.all_eq_true.mp c1 f (List.mem_of_getElem? h)
theorem SaysX.def_ {K : PySem.W.Frag} (c : SaysX K) (i : Nat) {d : DX} (h : fn[i]? = some d := by rfl) : fnV K (d.pa.at K) = d.val ∧ d.ok K = true := by
  have c2 := (ba (show ((fa.all fun f => f K) && fn.all fun d => d.ok K) = true from congrArg (fun z : AlX => z.1) c)).2
  have e : fn.map (fun d => fnV K (d.pa.at K)) = fn.map DX.val := congrArg (fun z : AlX => z.2) c
  have e2 : (fn.map fun d => fnV K (d.pa.at K))[i]? = (fn.map DX.val)[i]? := by rw [e]
  rw [List.getElem?_map, List.getElem?_map, h] at e2
  exact ⟨Option.some.inj e2, List.all_eq_true.mp c2 d (List.mem_of_getElem? h)⟩
theorem SaysX.funD {K : PySem.W.Frag} (c : SaysX K) (i : Nat) {d : DX} (h : fn[i]? = some d := by rfl) (hc : d.cl = [] := by rfl) : FunD K d.name d.qual (defArgs d.st) (defBody d.st) (defScope d.st) (d.dvs K) [] (d.pa.at K) (fdA K (d.pa.at K)) :=
  DX.funD hc (c.def_ i h).1 (c.def_ i h).2
end K3
namespace K3
open PySem PySem.Spec PyProof.Rows L2 He HX
set_option maxHeartbeats 0 in
theorem run (w : World) : HandSHeadRun.RunEq R qv hk ob 20000 looseN w := by
  intro os
  kernel_rfl
end K3
/-! what the head tells, by names; calls in short -/
namespace K3
open PySem PySem.Spec PyProof.Rows L2 He HX
structure HK (K : PySem.W.Frag) (mg : Str → Option Value) : Prop where
  says : SaysX K
  g : ∀ x ∈ gloN, mg x = some (.ref (ga K x))
  fr : ∀ x ∈ freeN, mg x = none
theorem hk_of {K : PySem.W.Frag} {h : Heap} {mg : Str → Option Value} (c : SaysX K) (X : K.In h) (G : h.Ns mainGlobals mg) : HK K mg := by
  exact ⟨c, fun x hx => glo_ok X G (List.all_eq_true.mp (c.fact 0 rfl) x hx), fun x hx => free_ok X G (List.all_eq_true.mp (c.fact 1 rfl) x hx)⟩
section
variable {K : PySem.W.Frag} {mg : Str → Option Value}
theorem HK.glo (h : HK K mg) (x : Str) (hx : x ∈ gloN := by decide +kernel) : mg x = some (.ref (ga K x)) := h.g x hx
theorem HK.free (h : HK K mg) (x : Str) (hx : x ∈ freeN := by decide +kernel) : mg x = none := h.fr x hx
/-! ### error classes -/
def dec_ {α : Type} [DecidableEq α] {a b : α} (h : decide (a = b) = true) : a = b := of_decide_eq_true h
theorem xc_ok {K : PySem.W.Frag} {C : Addr} (h : xcB K C = true) : ∃ nm q N bs bm sn sub ab col dd k0 k1 k2 k3 k5, K.lookup C = some (excClassObj nm q C N bs bm true sn sub ab col dd k0 k1 k2 k3 k5 "ValueError.__new__") ∧ PySem.HandSPX.refsVE bm = true := by
  unfold xcB at h
  split at h
  · rename_i ty dct cd sl ho
    obtain ⟨h1, h2⟩ := ba h
    have hty := eq_of_beq h1
    subst hty
    split at h2
    · rename_i C' bm k0 k1 k2 k3 n k5 hm hs
      simp only [Bool.and_eq_true, beq_iff_eq, Bool.not_eq_true'] at h2
      obtain ⟨⟨⟨⟨hC, hn⟩, hd⟩, hdc⟩, hr⟩ := h2
      subst hC hn
      have es : sl = #[k0, k1, k2, k3, some (.builtin "ValueError.__new__"), k5] := by
        rw [← hs]
      subst es
      obtain ⟨a1, a2, a3, a4, a5, a6, a7, a8, a9, a10, a11⟩ := cd
      dsimp only at hm hd hdc
      subst hm hd hdc
      exact ⟨_, _, _, _, bm, _, _, _, _, _, k0, k1, k2, k3, k5, ho, hr⟩
    · cases h2
  · cases h
theorem kitCls_ref {K : PySem.W.Frag} {t : Value} {C : Addr} (h1 : (PySem.W.clsIn K C).isSome = true) (h2 : PySem.W.typeIn K (.ref C) = some (.type "type")) : PySem.W.kitCls K t (.ref C) = PySem.W.subIn K t (.ref C) := by
  show (if ((PySem.W.clsIn K C).isSome && PySem.W.typeIn K (.ref C) == some (.type "type")) = true then PySem.W.subIn K t (.ref C) else none) = _
  rw [if_pos (by rw [h1, h2] <;> rfl)]
/-- all that is known of an error class -/
structure EF (K : PySem.W.Frag) (x : Str) : Prop where
  oex : OexC K (ga K x)
  erc : ErrC K (ga K x)
  iC : PySem.W.findIn K (.ref (ga K x)) "__init__" = some (some (.ref (ma K (ga K x) "__init__")))
  tI : PySem.W.typeIn K (.ref (ma K (ga K x) "__init__")) = some (.type "function")
  mro : (PySem.W.clsIn K (ga K x)).map (·.mro) = some (.ref (ga K x) :: .ref (ga K "LatticeError") :: veBase)
  exm : PySem.W.exmOne K (.ref (ga K x)) (.ref (ga K x)) = some true
theorem mroIn_of {C b : Addr} {v : Value} (h : (PySem.W.clsIn K C).map (·.mro) = some (.ref C :: .ref b :: veBase)) : PySem.W.mroIn K C v = some (decide (v = .ref C) || (decide (v = .ref b) || veBase.contains v)) := by
  obtain ⟨cd, hc, hm⟩ := Option.map_eq_some_iff.mp h
  unfold PySem.W.mroIn
  rw [hc]
  show (if cd.mro.isEmpty = true then none else some (cd.mro.contains v)) = _
  rw [hm]
  show some ((Value.ref C :: Value.ref b :: veBase).contains v) = _
  rw [List.contains_cons, List.contains_cons]
  congr 1
theorem HK.gen (h : HK K mg) : genB K = true := h.says.fact 5 rfl
theorem HK.errb (h : HK K mg) (x : Str) (hx : x ∈ errN) : errB file K x = true := List.all_eq_true.mp (h.says.fact 2 rfl) x hx
theorem cls_some {C : Addr} {l : List Value} (h : (PySem.W.clsIn K C).map (·.mro) = some l) : (PySem.W.clsIn K C).isSome = true := by
  obtain ⟨cd, hc, _⟩ := Option.map_eq_some_iff.mp h
  rw [hc] <;> rfl
theorem HK.ef (h : HK K mg) (x : Str) (hx : x ∈ errN := by decide +kernel) : EF K x := by
  have e := h.errb x hx
  have gg := h.gen
  unfold errB at e
  unfold genB at gg
  simp only [Bool.and_eq_true, decide_eq_true_eq] at e gg
  obtain ⟨e1, e2, e3, e4, e5, e6, e7, e8, e9, e10, e11, e12, e13, e14⟩ := e
  obtain ⟨g1, g2, g3, g4, g5, g6⟩ := gg
  have m : (PySem.W.clsIn K (ga K x)).map (·.mro) = some (.ref (ga K x) :: .ref (ga K "LatticeError") :: veBase) := dec_ (by unfold mroB at e6; exact e6)
  refine ⟨⟨xc_ok e1, e2, e3, e4, e5⟩, ⟨e9, e10, e3, e11, e12, g1, g2, ?_⟩, e13, e14, m, ?_⟩
  · rw [mroIn_of m]
    rfl
  · unfold PySem.W.exmOne
    rw [if_pos (by rw [e3] <;> rfl)]
    rw [kitCls_ref (cls_some m) e4]
    show PySem.W.mroIn K (ga K x) (.ref (ga K x)) = _
    rw [mroIn_of m]
    simp
/-- isinstance of an error: its own class -/
theorem HK.kitE (h : HK K mg) (x y : Str) (hx : x ∈ errN) (hy : y ∈ errN) : PySem.W.kitOne K (.ref (ga K x)) (.ref (ga K y)) = some (decide (x = y)) := by
  have ex := h.ef x hx
  have ey := h.ef y hy
  have gg := h.gen
  unfold genB at gg
  simp only [Bool.and_eq_true, decide_eq_true_eq] at gg
  obtain ⟨g1, g2, g3, g4, g5, g6⟩ := gg
  unfold PySem.W.kitOne
  by_cases e : x = y
  · subst e
    rw [if_pos (by simp)]
    simp
  · have ne : ∀ {a b : Str}, a ∈ (("LatticeError" : Str) :: errN) → b ∈ (("LatticeError" : Str) :: errN) → a ≠ b → ga K a ≠ ga K b := fun {a b} ha hb hab q => by
      obtain ⟨i, ei⟩ := List.mem_iff_getElem?.mp ha
      obtain ⟨j, ej⟩ := List.mem_iff_getElem?.mp hb
      have := L2.nd_ix g4 (i := i) (j := j) (x := ga K a) (by rw [List.getElem?_map, ei]; rfl) (by rw [List.getElem?_map, ej, q]; rfl)
      subst this
      exact hab (Option.some.inj (ei.symm.trans ej))
    have n1 : ga K x ≠ ga K y := ne (List.mem_cons_of_mem _ hx) (List.mem_cons_of_mem _ hy) e
    have n2 : ga K y ≠ ga K "LatticeError" := ne (List.mem_cons_of_mem _ hy) List.mem_cons_self (fun q => by
      rw [q] at hy
      exact absurd hy (by decide +kernel))
    rw [if_neg (by simpa using n1)]
    rw [kitCls_ref (cls_some ey.mro) ey.oex.tyC]
    show PySem.W.mroIn K (ga K x) (.ref (ga K y)) = _
    rw [mroIn_of ex.mro, decide_eq_false e, decide_eq_false (fun z => n1 (Value.ref.inj z).symm), decide_eq_false (fun z => n2 (Value.ref.inj z))]
    rfl
theorem HK.kitL (h : HK K mg) (x : Str) (hx : x ∈ errN) : PySem.W.kitOne K (.ref (ga K x)) (.ref (ga K "LatticeError")) = some true := by
  have ex := h.ef x hx
  have gg := h.gen
  unfold genB at gg
  simp only [Bool.and_eq_true, decide_eq_true_eq] at gg
  obtain ⟨g1, g2, g3, g4, g5, g6⟩ := gg
  unfold PySem.W.kitOne
  split
  · rfl
  · rw [kitCls_ref g6 g5]
    show PySem.W.mroIn K (ga K x) (.ref (ga K "LatticeError")) = _
    rw [mroIn_of ex.mro]
    simp
theorem HK.kitV (h : HK K mg) (x : Str) (hx : x ∈ errN) : PySem.W.kitOne K (.ref (ga K x)) (.type "ValueError") = some true := by
  have ex := h.ef x hx
  unfold PySem.W.kitOne
  rw [if_neg (by simp)]
  unfold PySem.W.kitCls
  show (if PySem.W.kitMeta "ValueError" = true then PySem.W.subIn K (.ref (ga K x)) (.type "ValueError") else none) = _
  rw [if_pos (by decide +kernel)]
  show PySem.W.mroIn K (ga K x) (.type "ValueError") = _
  rw [mroIn_of ex.mro]
  rfl
theorem HK.fld (h : HK K mg) (x f : Str) (hx : (x, f) ∈ fldN := by decide +kernel) : PySem.W.findIn K (.ref (ga K x)) f = some none := noat_ok (List.all_eq_true.mp (h.says.fact 3 rfl) (x, f) hx)
/-- the __init__ of an error class -/
theorem HK.init (h : HK K mg) (x : Str) (i : Nat) {d : DX} (hi : fn[i]? = some d) (hp : d.pa.at K = ma K (ga K x) "__init__") (hc : d.cl = [("__class__" : Str)]) (hdf : d.dfl = []) (hx : x ∈ errN := by decide +kernel) :
    ∃ (cc cda : Addr) (oc : Value) (od : Option Addr) (kV doc pm : Value) (an : Option Addr) (ct : Value) (osl : Array (Option Value)),
      fdA K (ma K (ga K x) "__init__") = PySem.W.fnX d.name d.qual (defArgs d.st) (defBody d.st) (defScope d.st) [("__class__", cc)] .none kV doc pm an (.ref cda) ct ∧
      K.lookup (ma K (ga K x) "__init__") = some ⟨oc, od, .func (PySem.W.fnX d.name d.qual (defArgs d.st) (defBody d.st) (defScope d.st) [("__class__", cc)] .none kV doc pm an (.ref cda) ct), osl⟩ ∧
      PySem.W.codeIn K (.ref cda) d.qual = true ∧ SupC PR K (ga K x) (ma K (ga K x) "__init__") cc cda := by
  have e := h.errb x hx
  have gg := h.gen
  unfold errB at e
  unfold genB at gg
  simp only [Bool.and_eq_true, decide_eq_true_eq] at e gg
  obtain ⟨e1, e2, e3, e4, e5, e6, e7, e8, e9, e10, e11, e12, e13, e14⟩ := e
  obtain ⟨g1, g2, g3, g4, g5, g6⟩ := gg
  have m : (PySem.W.clsIn K (ga K x)).map (·.mro) = some (.ref (ga K x) :: .ref (ga K "LatticeError") :: veBase) := dec_ (by unfold mroB at e6; exact e6)
  obtain ⟨v, c⟩ := h.says.def_ i hi
  rw [hp] at v
  unfold DX.ok at c
  rw [hp] at c
  obtain ⟨kp, c2⟩ := ba c
  unfold fnV at v
  unfold fdA
  unfold initB at e7
  cases q : K.lookup (ma K (ga K x) "__init__") with
  | none =>
    rw [q] at c2
    cases c2
  | some o =>
    obtain ⟨oc, od, dt, osl⟩ := o
    rw [q] at c2 v e7
    cases dt with
    | func fd =>
      obtain ⟨n1, n2, n3, n4, n5, n6, n7, n8, n9, n10, n11, n12, n13, n14, n15⟩ := fd
      have e2 : (some (n1, n2, n3, n4, n5, n6, n7.map (·.1), n15) : VX) = some (d.name, d.qual, defArgs d.st, .stmts (defBody d.st), defScope d.st, mainGlobals, d.cl, builtinsNs) := v
      simp only [Option.some.injEq, Prod.mk.injEq] at e2
      obtain ⟨h1, h2, h3, h4, h5, h6, h7, h8⟩ := e2
      dsimp only at e7
      split at e7
      · rename_i n cc cda
        simp only [Bool.and_eq_true, beq_iff_eq] at e7
        obtain ⟨⟨en, ec⟩, ed⟩ := e7
        subst h1 h2 h3 h4 h5 h6 h8

        subst en
        obtain ⟨k1, k2⟩ := ba (show (PySem.W.codeIn K (.ref cda) d.qual && dflB K n8 (d.dvs K)) = true from c2)
        have hn8 : n8 = .none := by
          unfold DX.dvs at k2
          rw [hdf] at k2
          rcases dflB_ok k2 with ⟨_, e⟩ | ⟨e, _⟩
          · exact e
          · exact absurd rfl e
        subst hn8
        refine ⟨cc, cda, oc, od, n9, n10, n11, n12, n14, osl, rfl, rfl, k1, ⟨xc_ok e1, ?_, ?_, ?_, e8, ?_, g3, ?_, by decide +kernel⟩⟩
        · split at ec
          · rename_i cl cld D csl hcc
            have := eq_of_beq ec
            subst this
            exact ⟨_, _, _, hcc⟩
          · cases ec
        · split at ed
          · rename_i ccl cdd vs ccs hcd
            split at ed
            · rename_i f tf hv
              exact ⟨_, _, vs, _, f, tf, hcd, hv, ed⟩
            · cases ed
          · cases ed
        · rw [mroIn_of m]
          simp
        · show PySem.W.mroIn K (ga K x) (.type "ValueError") = _
          rw [mroIn_of m]
          rfl
        · have f := List.all_eq_true.mp (h.says.fact 1 rfl) "super" (by decide +kernel)
          exact eqO_ok f
      · cases e7
    | _ => cases c2
/-! ### Web -/
abbrev wC (K : PySem.W.Frag) : Addr := ga K "Web"
structure WF (K : PySem.W.Frag) : Prop where
  cls : Cls K (wC K)
  mkr : Mk K (wC K) (ma K (wC K) "__init__")
  meth : ∀ m ∈ methN, Meth K (wC K) m (ma K (wC K) m)
  no : ∀ f ∈ noN, NoAttr K (wC K) f
theorem HK.wf (h : HK K mg) : WF K := by
  have e := h.says.fact 4 rfl
  unfold webB at e
  simp only [Bool.and_eq_true, List.all_eq_true] at e
  obtain ⟨e1, e2, e3, e4⟩ := e
  exact ⟨cls_ok e1, mkr_ok e2, fun m hm => meth_ok (e3 m hm), fun f hf => noat_ok (e4 f hf)⟩
end
end K3
/-! calls in short; a wide division -/
namespace K3
open PySem PySem.Spec PyProof.Rows L2 He HX
/-- // by a divisor that is not 0, below 2 ^ 9000 in size -/
def CDivX (_ j : Int) : Prop := j ≠ 0 ∧ j.natAbs.log2 < 9000
theorem op_fdivX {X : Cx} : OpR X (binaryOp .FloorDiv) (rI CDivX fun i j => .int (i.fdiv j)) := opI fun i j _ _ _ _ _ hc q =>
  floordiv_int hc.1 q (.inl (PyProof.noPylong_of_log2 hc.2))
/-- a def of the module, as it is called -/
structure Cal (P : Program) (w : World) (K : PySem.W.Frag) (mg : Str → Option Value) (base : Heap) (k : Nat) (x : Str) (ps : List Str) (sp : Sp) : Prop where
  ok : FnOk P w K mg base (L2.CX P w) k (ga K x) (fdA K (ga K x)) ps sp
  at_ : mg x = some (.ref (ga K x))
  kp : PySem.W.keepIn K (.ref (ga K x)) = true
  b : Binds K (fdA K (ga K x)) ps []
/-- a method of a class -/
structure CalM (P : Program) (w : World) (K : PySem.W.Frag) (mg : Str → Option Value) (base : Heap) (k : Nat) (C : Addr) (m : Str) (ps : List Str) (sp : Sp) : Prop where
  ok : FnOk P w K mg base (L2.CX P w) k (ma K C m) (fdA K (ma K C m)) ps sp
  cl : Cls K C
  mt : Meth K C m (ma K C m)
  b : Binds K (fdA K (ma K C m)) ps []
/-- a static method of Frac -/
structure CalS (P : Program) (w : World) (K : PySem.W.Frag) (mg : Str → Option Value) (base : Heap) (k : Nat) (x m : Str) (ps : List Str) (sp : Sp) : Prop where
  ok : FnOk P w K mg base (L2.CX P w) k (sa K (ga K x) m) (fdA K (sa K (ga K x) m)) ps sp
  at_ : mg x = some (.ref (ga K x))
  st : Stat K (ga K x) m (sa K (ga K x) m)
  b : Binds K (fdA K (sa K (ga K x) m)) ps []
/-- a def that also runs while an error is handled -/
structure CalW (P : Program) (w : World) (K : PySem.W.Frag) (mg : Str → Option Value) (base : Heap) (k : Nat) (x : Str) (ps : List Str) (sp : Sp) : Prop where
  ok : FnW P w K mg base (L2.CX P w) k (ga K x) (fdA K (ga K x)) ps sp
  at_ : mg x = some (.ref (ga K x))
  kp : PySem.W.keepIn K (.ref (ga K x)) = true
  b : Binds K (fdA K (ga K x)) ps []
theorem CalW.cal {P : Program} {w : World} {K : PySem.W.Frag} {mg : Str → Option Value} {base : Heap} {k : Nat} {x : Str} {ps : List Str} {sp : Sp} (c : CalW P w K mg base k x ps sp) : Cal P w K mg base k x ps sp := ⟨c.ok.ok, c.at_, c.kp, c.b⟩
/-- an error class: how C(..) is made -/
structure CalX (P : Program) (w : World) (K : PySem.W.Frag) (mg : Str → Option Value) (base : Heap) (k : Nat) (x : Str) (ps : List Str) (sp : Sp) : Prop where
  ok : FnOk P w K mg base (L2.CX P w) k (ma K (ga K x) "__init__") (fdA K (ma K (ga K x) "__init__")) ps sp
  at_ : mg x = some (.ref (ga K x))
  ef : EF K x
  b : Binds K (fdA K (ma K (ga K x) "__init__")) ps []
section
variable {X : Cx} {k n : Nat} {x m : Str} {ps : List Str} {sp : Sp} {E : XK} {p pos apos : Pos} {e o : Expr} {es : List Expr} {t : TA} {to : TE}
theorem pe_cal (C : Cal X.prog X.w X.K X.mg X.base k x ps sp) (hr : Room n X.A) (hx : Passes (L2.CX X.prog X.w) X E) (ha : PA X (e :: es) t) (hkn : k ≤ n := by decide) (hg : Gl X x := by rfl) (hdb : (x == ("__debug__" : Str)) = false := by decide)
    (he : starEach (e :: es) X.env = (false, eval e X.env) :: starEach es X.env := by rfl) (hpl : (backTo pos (starEach es X.env)).any (·.1) = false := by rfl) : PE X (.Call (.Name x p) (e :: es) [] pos) (tCall sp [] E t) :=
  pe_call C.ok (hr.mono hkn) hg C.at_ C.kp C.b .nil hx ha hdb he hpl
theorem pe_calM (C : CalM X.prog X.w X.K X.mg X.base k (wC X.K) m ps sp) (hr : Room n X.A) (hx : Passes (L2.CX X.prog X.w) X E) (ho : PE X o to) (ha : PA X (e :: es) t) {pl : Sem Bool} (hkn : k ≤ n := by decide)
    (hst : starEach (e :: es) X.env = (false, eval e X.env) :: starEach es X.env := by rfl) (hpl : (backTo pos (starEach es X.env)).any (·.1) = false := by rfl)
    (ht : eval (.Call (.Attribute o m apos) (e :: es) [] pos) X.env = (do
      let ov ← eval o X.env
      standAt apos.atName
      let (f, first) ← holding [ov] (getMethod ov m pl)
      callWith pos f first (backTo pos (starEach (e :: es) X.env)) (backToKw pos (keywordEach [] X.env))) := by rfl) : PE X (.Call (.Attribute o m apos) (e :: es) [] pos) (tMeth (wC X.K) m sp [] E to t) :=
  pe_meth ho C.cl C.mt C.ok (hr.mono hkn) C.b .nil hx ha hst hpl ht
theorem pe_calM0 (C : CalM X.prog X.w X.K X.mg X.base k (wC X.K) m ps sp) (hr : Room n X.A) (hx : Passes (L2.CX X.prog X.w) X E) (ho : PE X o to) {pl : Sem Bool} (hkn : k ≤ n := by decide)
    (ht : eval (.Call (.Attribute o m apos) [] [] pos) X.env = (do
      let ov ← eval o X.env
      standAt apos.atName
      let (f, first) ← holding [ov] (getMethod ov m pl)
      callWith pos f first (backTo pos (starEach [] X.env)) (backToKw pos (keywordEach [] X.env))) := by rfl) : PE X (.Call (.Attribute o m apos) [] [] pos) (tMeth (wC X.K) m sp [] E to tNil) :=
  pe_meth0 ho C.cl C.mt C.ok (hr.mono hkn) C.b .nil hx ht
theorem pe_calS (C : CalS X.prog X.w X.K X.mg X.base k x m ps sp) (hr : Room n X.A) (hx : Passes (L2.CX X.prog X.w) X E) (ha : PA X (e :: es) t) {pl : Sem Bool} (hkn : k ≤ n := by decide) (hg : Gl X x := by rfl) (hdb : (x == ("__debug__" : Str)) = false := by decide)
    (hst : starEach (e :: es) X.env = (false, eval e X.env) :: starEach es X.env := by rfl) (hpl : (backTo pos (starEach es X.env)).any (·.1) = false := by rfl)
    (ht : eval (.Call (.Attribute (.Name x p) m apos) (e :: es) [] pos) X.env = (do
      let ov ← eval (.Name x p) X.env
      standAt apos.atName
      let (f, first) ← holding [ov] (getMethod ov m pl)
      callWith pos f first (backTo pos (starEach (e :: es) X.env)) (backToKw pos (keywordEach [] X.env))) := by rfl) : PE X (.Call (.Attribute (.Name x p) m apos) (e :: es) [] pos) (tCall sp [] E t) :=
  pe_stat C.st C.at_ C.ok (hr.mono hkn) C.b hx ha hg hdb hst hpl ht
theorem pe_calW (C : CalW X.prog X.w X.K X.mg X.base k x ps sp) (hr : L2H.RoomH n X.A) (hx : Passes (L2.CX X.prog X.w) X E) (ha : PA X (e :: es) t) (hkn : k ≤ n := by decide) (hg : Gl X x := by rfl) (hdb : (x == ("__debug__" : Str)) = false := by decide)
    (he : starEach (e :: es) X.env = (false, eval e X.env) :: starEach es X.env := by rfl) (hpl : (backTo pos (starEach es X.env)).any (·.1) = false := by rfl) : PE X (.Call (.Name x p) (e :: es) [] pos) (tCall sp [] E t) :=
  pe_callW C.ok (hr.mono hkn) C.at_ C.kp C.b hx ha hg hdb he hpl
theorem pe_calV (C : CalX X.prog X.w X.K X.mg X.base k x ps sp) (hr : Room n X.A) (ha : PA X (e :: es) t) (hkn : k + 1 ≤ n := by decide) (hg : Gl X x := by rfl) (hdb : (x == ("__debug__" : Str)) = false := by decide)
    (he : starEach (e :: es) X.env = (false, eval e X.env) :: starEach es X.env := by rfl) (hpl : (backTo pos (starEach es X.env)).any (·.1) = false := by rfl) : PE X (.Call (.Name x p) (e :: es) [] pos) (tMkV (ga X.K x) sp t) :=
  pe_mkV C.ef.oex C.ef.iC C.ef.tI C.ok (hr.mono hkn) C.b passL C.at_ ha hg hdb he hpl
theorem pe_calV0 (C : CalX X.prog X.w X.K X.mg X.base k x ps sp) (hr : Room n X.A) (hkn : k + 1 ≤ n := by decide) (hg : Gl X x := by rfl) (hdb : (x == ("__debug__" : Str)) = false := by decide) : PE X (.Call (.Name x p) [] [] pos) (tMkV (ga X.K x) sp tNil) :=
  pe_mkV0 C.ef.oex C.ef.iC C.ef.tI C.ok (hr.mono hkn) C.b passL C.at_ hg hdb
theorem pmk_cal (C : CalX X.prog X.w X.K X.mg X.base k x ps sp) (hr : Room n X.A) (ha : PA X (e :: es) t) (hkn : k + 1 ≤ n := by decide) (hg : Gl X x := by rfl) (hdb : (x == ("__debug__" : Str)) = false := by decide)
    (he : starEach (e :: es) X.env = (false, eval e X.env) :: starEach es X.env := by rfl) (hpl : (backTo pos (starEach es X.env)).any (·.1) = false := by rfl) : PMk X (.Call (.Name x p) (e :: es) [] pos) (tMkX (ga X.K x) sp t) :=
  pmk_x C.ef.oex C.ef.iC C.ef.tI C.ok (hr.mono hkn) C.b passL C.at_ ha hg hdb he hpl
theorem pmk_cal0 (C : CalX X.prog X.w X.K X.mg X.base k x ps sp) (hr : Room n X.A) (hkn : k + 1 ≤ n := by decide) (hg : Gl X x := by rfl) (hdb : (x == ("__debug__" : Str)) = false := by decide) : PMk X (.Call (.Name x p) [] [] pos) (tMkX (ga X.K x) sp tNil) :=
  pmk_x0 C.ef.oex C.ef.iC C.ef.tI C.ok (hr.mono hkn) C.b passL C.at_ hg hdb
end
/-- errors of a call in a try's body -/
def EL (W : WX) (n : Nat) : XK := fun cls d H => ∀ σ : L2.St, σ.length = n → W cls d σ H
theorem passLen {X : Cx} {W : WX} (tk : Takes X W) : Passes (L2.CX X.prog X.w) X (EL W X.N.length) := fun _ σ _ _ e s' I c => tk e s' (XE.of_call I (fun _ _ _ h => h σ I.len) c)
section
variable {P : Program} {w : World} {K : PySem.W.Frag} {mg : Str → Option Value} {base : Heap}
theorem cal_mk {k : Nat} {x : Str} {ps : List Str} {sp : Sp} {pa : Arguments} {bd : List Stmt} {sc : Scope} (F : FunD K x x pa bd sc [] [] (ga K x) (fdA K (ga K x))) (hm : mg x = some (.ref (ga K x))) (ok : FnOk P w K mg base (L2.CX P w) k (ga K x) (fdA K (ga K x)) ps sp)
    (hb : ∀ (kV doc pm : Value) (an : Option Addr) (cdv ct : Value) (us : List Value), us.length = ps.length → bindArgs (PySem.W.fnOf x x pa bd sc .none kV doc pm an cdv ct) ⟨us, []⟩ = pure (ps.zip us)) : Cal P w K mg base k x ps sp :=
  ⟨ok, hm, F.kp, F.bindsN hb⟩
/-- the rule for a def that may let an error out -/
theorem okX {CX : CXT} {x qual : Str} {N ps : List Str} {k : Nat} {sp : Sp} {pa : Arguments} {bd : List Stmt} {sc : Scope} {dvs : List V} {f : Addr} {fd : FuncData} (F : FunD K x qual pa bd sc dvs [] f fd) (S : FnScope N ps sc) (len : ∀ vs H Q E, sp vs H Q E → vs.length = ps.length)
    (hbody : ∀ (cdv : Value) (A : Around) (outer : List Env) (s : Shared) (H : Hp) (vs : List V) (Q : VK) (E : XK), Room k (A.deeper (envOfC qual sc s.heap.objs.size f cdv)) → sp vs H Q E →
      ∃ t, PSs (cxOf CX P w K mg base N qual sc f cdv A outer s H E) bd t ∧ t { nx := fun _ H' => Q .non H', rt := Q } (L2.start N vs) H) : FnOk P w K mg base CX (k + 1) f fd ps sp := F.ok S len hbody
end
end K3
/-! what each def of k00 promises -/
namespace K3
open PySem PySem.Spec PyProof.Rows L2 He HX
theorem same_upd {H : Hp} {a : Addr} {o : HO} (h : H a = none) : Same H (upd H a o) := fun b u q => by
  rw [upd_ne (ne_of_none q h)]
  exact q
theorem _root_.L2.Same.tup {K : PySem.W.Frag} {H H' : Hp} {a : Addr} {xs : List V} (e : Same H H') (h : SqT K H a xs) : SqT K H' a xs := by
  rcases h with (h | ⟨o, h⟩) | h
  · exact .inl (.inl (e _ _ h))
  · exact .inl (.inr ⟨o, e _ _ h⟩)
  · exact .inr h
def Bd (k : Nat) (n : Int) : Prop := n.natAbs < 2 ^ k
theorem Bd.mul {a b : Nat} {i j : Int} (h : Bd a i) (h' : Bd b j) : Bd (a + b) (i * j) := wide_lt h h'
theorem Bd.mono {a b : Nat} {i : Int} (h : Bd a i) (hab : a ≤ b) : Bd b i := Nat.lt_of_lt_of_le h (Nat.pow_le_pow_right (by decide) hab)
theorem Bd.add {a : Nat} {i j : Int} (h : Bd a i) (h' : Bd a j) : Bd (a + 1) (i + j) := by
  unfold Bd at *
  have : (2 : Nat) ^ (a + 1) = 2 * 2 ^ a := by rw [Nat.pow_succ, Nat.mul_comm]
  omega
theorem Bd.sub {a : Nat} {i j : Int} (h : Bd a i) (h' : Bd a j) : Bd (a + 1) (i - j) := by
  unfold Bd at *
  have : (2 : Nat) ^ (a + 1) = 2 * 2 ^ a := by rw [Nat.pow_succ, Nat.mul_comm]
  omega
theorem Bd.neg {a : Nat} {i : Int} (h : Bd a i) : Bd a (-i) := by
  unfold Bd at *
  omega
theorem Bd.le {a : Nat} {i j : Int} (h : Bd a j) (hij : i.natAbs ≤ j.natAbs) : Bd a i := Nat.lt_of_le_of_lt hij h
theorem Bd.mulW {a b : Nat} {i j : Int} (h : Bd a i) (h' : Bd b j) (ha : 0 < a := by decide) (hb : 0 < b := by decide) (hs : a + b ≤ 1000000 := by decide) : CMulW i j := wide_mul h h' ha hb hs
theorem Bd.divX {a : Nat} {i j : Int} (h : Bd a j) (h0 : j ≠ 0) (ha : 0 < a := by decide) (hs : a ≤ 9000 := by decide) : CDivX i j := ⟨h0, Nat.lt_of_lt_of_le (PySem.Flt.log2_lt_of ha h) hs⟩
section
variable {X : Cx} {n : Nat} {E : XK} {p pos : Pos} {e e2 : Expr} {t : TA}
end
section
variable {X : Cx} {n : Nat} {p pos : Pos} {e e2 : Expr} {t : TA}
end
def SqX (K : PySem.W.Frag) (H : Hp) (l : Addr) (xs : List V) : Prop := SqL K H l xs ∨ SqT K H l xs
def ErrAt (K : PySem.W.Frag) (H : Hp) (a : Addr) (x : Str) (fs : List (Str × V)) : Prop := x ∈ errN ∧ ∃ d, ExAt H a (ga K x) d ∧ (d = none → fs = []) ∧ ∀ dd, d = some dd → XdAt H dd fs
def PoolAt (H : Hp) (p : Addr) : Prop := ∃ xs : List Int, H p = some (.lst (xs.map V.int)) ∧ xs.length ≤ 65
def PoolTo (p : Addr) (H H' : Hp) : Prop := (∀ b o, b ≠ p → H b = some o → H' b = some o) ∧ PoolAt H' p
def sp__law_draw (K : PySem.W.Frag) : Sp := fun vs H Q _ => ∃ (p : Addr) (m : Int), vs = [.ref p, .int m] ∧ PoolAt H p ∧ 0 < m ∧ Bd 9000 m ∧ ∀ H' i, PoolTo p H H' → 0 ≤ i → i < m → Q (.int i) H'
inductive CpD where
  | i (n : Int)
  | t (ns : List Int)
  | l (ns : List Int)
def CpIn (K : PySem.W.Frag) (H : Hp) (v : V) : CpD → Prop
  | .i n => v = .int n
  | .t ns => ∃ a, v = .ref a ∧ ns.length ≤ 100 ∧ SqT K H a (ns.map V.int)
  | .l ns => ∃ a, v = .ref a ∧ ns.length ≤ 100 ∧ SqL K H a (ns.map V.int)
def CpOut (K : PySem.W.Frag) (H H' : Hp) (v' : V) : CpD → Prop
  | .i n => v' = .int n
  | .t ns => ∃ q, v' = .ref q ∧ SqT K H' q (ns.map V.int)
  | .l ns => ∃ q, v' = .ref q ∧ H q = none ∧ H' q = some (.lst (ns.map V.int))
def sp_copied (K : PySem.W.Frag) : Sp := fun vs H Q _ => ∃ (v : V) (c : CpD), vs = [v] ∧ CpIn K H v c ∧ ∀ H' v', Same H H' → CpOut K H H' v' c → Q v' H'
def But (x : Addr) (H H' : Hp) : Prop := ∀ b o, b ≠ x → H b = some o → H' b = some o
theorem CpOut.keep {K : PySem.W.Frag} {H H1 H2 : Hp} {v' : V} {c : CpD} {a : Addr} {C : Addr} (r : CpOut K H H1 v' c) (ha : H1 a = some (exo a C none)) (k : ∀ b o, b ≠ a → H1 b = some o → H2 b = some o) : CpOut K H H2 v' c := by
  cases c with
  | i n => exact r
  | t ns =>
    obtain ⟨q, h2, h4⟩ := r
    refine ⟨q, h2, ?_⟩
    have ne : ∀ o, H1 q = some o → (∀ C' d, o ≠ exo q C' d) → q ≠ a := fun o e n z => by
      subst z
      rw [ha] at e
      exact n _ _ (Option.some.inj e).symm
    rcases h4 with (h4 | ⟨o, h4⟩) | h4
    · exact .inl (.inl (k _ _ (ne _ h4 fun _ _ z => nomatch (show HO.tup _ = HO.ext _ from z)) h4))
    · exact .inl (.inr ⟨o, k _ _ (ne _ h4 fun _ _ z => nomatch (show HO.frz _ _ = HO.ext _ from z)) h4⟩)
    · exact .inr h4
  | l ns =>
    obtain ⟨q, h2, h4, h5⟩ := r
    refine ⟨q, h2, h4, k _ _ (fun z => ?_) h5⟩
    subst z
    rw [ha] at h5
    exact nomatch (show HO.ext _ = HO.lst _ from Option.some.inj h5)
def spX0 (K : PySem.W.Frag) (x : Str) : Sp := fun vs H Q _ => ∃ a : Addr, vs = [.ref a] ∧ H a = some (exo a (ga K x) none) ∧ Q .non H
def spX1 (K : PySem.W.Frag) (x f : Str) : Sp := fun vs H Q _ => ∃ (a : Addr) (y : V), vs = [.ref a, y] ∧ H a = some (exo a (ga K x) none) ∧
  ∀ H' dx, But a H H' → H' a = some (exo a (ga K x) (some dx)) → H dx = none → dx ≠ a → H' dx = some (exd dx [(f, y)]) → Q .non H'
def spX2 (K : PySem.W.Frag) (x f g : Str) : Sp := fun vs H Q _ => ∃ (a : Addr) (y z : V), vs = [.ref a, y, z] ∧ H a = some (exo a (ga K x) none) ∧
  ∀ H' dx, But a H H' → H' a = some (exo a (ga K x) (some dx)) → H dx = none → dx ≠ a → H' dx = some (exd dx [(g, z), (f, y)]) → Q .non H'
def spXc (K : PySem.W.Frag) (x f : Str) : Sp := fun vs H Q _ => ∃ (a : Addr) (y : V) (c : CpD), vs = [.ref a, y] ∧ H a = some (exo a (ga K x) none) ∧ CpIn K H y c ∧
  ∀ H' dx y', But a H H' → H' a = some (exo a (ga K x) (some dx)) → H dx = none → dx ≠ a → H' dx = some (exd dx [(f, y')]) → CpOut K H H' y' c → Q .non H'
theorem del_upd {H : Hp} {a : Addr} {o : HO} (h : H a = none) : del (upd H a o) a = H := by
  funext b
  by_cases hb : b = a
  · rw [hb, del_same, h]
  · rw [del_ne hb, upd_ne hb]
section
variable {K : PySem.W.Frag} {σ : L2.St} {H : Hp} {Q : VK} {a dx : Addr} {n d : Int} {i : Nat}
end
theorem two_size : ([V.int 0, V.int 0] : List V).length ≤ sizeLine := by
  rw [sizeLine_eq]
  decide
theorem PoolTo.refl {p : Addr} {H : Hp} (h : PoolAt H p) : PoolTo p H H := ⟨fun _ _ _ q => q, h⟩
theorem PoolTo.trans {p : Addr} {H H1 H2 : Hp} (a : PoolTo p H H1) (b : PoolTo p H1 H2) : PoolTo p H H2 := ⟨fun c o n q => b.1 c o n (a.1 c o n q), b.2⟩
theorem PoolTo.upd {p x : Addr} {H H' : Hp} {o : HO} (a : PoolTo p H H') (h : H' x = none) : PoolTo p H (upd H' x o) := by
  obtain ⟨xs, e, r⟩ := a.2
  exact ⟨fun c u n q => by
    rw [upd_ne (ne_of_none (a.1 c u n q) h)]
    exact a.1 c u n q, xs, by rw [upd_ne (ne_of_none e h)]; exact e, r⟩
theorem PoolTo.same {p : Addr} {H H1 H2 : Hp} (a : PoolTo p H H1) (b : Same H1 H2) : PoolTo p H H2 := by
  obtain ⟨xs, e, r⟩ := a.2
  exact ⟨fun c o n q => b _ _ (a.1 c o n q), xs, b _ _ e, r⟩
theorem rd_draw {K : PySem.W.Frag} {p : Addr} {m : Int} {H : Hp} {Q : VK} {E : XK} (hp : PoolAt H p) (hm : 0 < m) (hb : m.natAbs < 2 ^ 64) (k : ∀ H' i, PoolTo p H H' → 0 ≤ i → i < m → Q (.int i) H') : sp__law_draw K [.ref p, .int m] H Q E :=
  ⟨p, m, rfl, hp, hm, Bd.mono (a := 64) hb (by decide), k⟩
theorem bd_of {i m : Int} {k : Nat} (h0 : 0 ≤ i) (h : i < m) (hm : m ≤ 2 ^ k) : Bd k i := by
  unfold Bd
  have e : ((2 ^ k : Nat) : Int) = 2 ^ k := by simp
  omega
theorem small_size {n : Nat} (h : n ≤ 1000) : n ≤ sizeLine := by
  rw [sizeLine_eq]
  omega
def numT (n : Int) : List Nat := if n < 0 then 45 :: TL.numL n.natAbs else TL.numL n.natAbs
theorem str_int (n : Int) : Str.ofString (toString n) = SX.S (numT n) := by
  cases n with
  | ofNat m => exact SX.num_S m
  | negSucc m =>
    refine TL.ext_tl ?_
    rw [TL.tl_ofString, show toString (Int.negSucc m) = "-" ++ Nat.repr (m + 1) from rfl, String.toList_append]
    unfold numT
    rw [if_pos (by omega)]
    show _ = 45 :: (Nat.toDigits 10 (m + 1)).map Char.toNat
    rw [List.map_append, show (Nat.repr (m + 1)).toList = Nat.toDigits 10 (m + 1) by unfold Nat.repr; simp]
    rfl
theorem str_len_app (a b : Str) : (a ++ b).length = a.length + b.length := by
  show (a.cps ++ b.cps).size = _
  rw [Array.size_append]
  rfl
theorem pi_or {X : Cx} {tg iter : Expr} {w1 w2 : TI} (h1 : PI X tg iter w1) (h2 : PI X tg iter w2) : PI X tg iter (fun σ H R => w1 σ H R ∨ w2 σ H R) :=
  ⟨fun pins s σ H R I h => h.elim (h1.run pins s σ H R I) (h2.run pins s σ H R I)⟩
theorem for_x {K : PySem.W.Frag} {a : Addr} {xs : List V} {j : Nat} {g : TG} {tb : TS} {D : Ends} {σ : L2.St} {H0 H : Hp} (hj : σ[j]? = some (some (.ref a))) (hx : SqX K H0 a xs) (Pv : Nat → L2.St → Hp → Prop) (h0 : Pv 0 σ H) (hl : ∀ i σ' H', Pv i σ' H' → Same H0 H')
    (hs : ∀ i x σ' H', xs[i]? = some x → Pv i σ' H' → g x σ' H' fun σ2 H2 => tb { D with nx := Pv (i + 1), ct := Pv (i + 1), bk := D.nx } σ2 H2) (hd : ∀ σ' H', Pv xs.length σ' H' → D.nx σ' H') :
    tFor (fun σ H R => iList K (tVar j) σ H R ∨ iTup K (tVar j) σ H R) g tb D σ H := by
  rcases hx with hx | hx
  · exact .inl ⟨_, hj, a, rfl, ⟨_, (hl 0 σ H h0).seq hx⟩, for_list Pv h0 (fun i σ' H' _ p => (hl i σ' H' p).seq hx) hs hd⟩
  · exact .inr ⟨_, hj, a, rfl, ⟨_, (hl 0 σ H h0).tup hx⟩, for_tup Pv h0 (fun i σ' H' _ p => (hl i σ' H' p).tup hx) hs hd⟩
theorem size0 : ([] : List V).length ≤ sizeLine := Nat.zero_le _
theorem small_lt {n : Nat} (h : n ≤ 1000) : n < sizeLine := by
  rw [sizeLine_eq]
  omega
theorem upd_again {H H1 : Hp} {l : Addr} {o : HO} (e : Same H H1) (hl : H l = none) : Same H (upd H1 l o) := fun b u q => by
  rw [upd_ne (ne_of_none q hl)]
  exact e _ _ q
theorem SqX.same {K : PySem.W.Frag} {H H' : Hp} {a : Addr} {xs : List V} (e : Same H H') (h : SqX K H a xs) : SqX K H' a xs := h.imp e.seq e.tup
theorem bd64 {m : Int} (h : m.natAbs < 2 ^ 64) : Bd 9000 m := Bd.mono (a := 64) h (by decide)
theorem PoolTo.tup {K : PySem.W.Frag} {p a : Addr} {H H' : Hp} {xs : List V} (hp : PoolAt H p) (t : PoolTo p H H') (h : SqT K H a xs) : SqT K H' a xs := by
  obtain ⟨ys, e, _⟩ := hp
  rcases h with (h | ⟨o, h⟩) | h
  · exact .inl (.inl (t.1 _ _ (fun z => by subst z; rw [e] at h; cases h) h))
  · exact .inl (.inr ⟨o, t.1 _ _ (fun z => by subst z; rw [e] at h; cases h) h⟩)
  · exact .inr h
theorem bd1 : Bd 1000 1 := Nat.one_lt_two_pow (by decide)
section
variable {X : Cx} {k n : Nat} {x m : Str} {ps : List Str} {sp : Sp} {E : XK} {p pos apos : Pos} {e o e2 : Expr} {es : List Expr} {t : TA} {to ta : TE} {f : Str}
theorem call_isXK (K : PySem.W.Frag) (hK : X.K = K) : CallR X (.builtin "isinstance") (rIsX K) := hK ▸ call_isX
theorem pe_efK (K : PySem.W.Frag) (hK : X.K = K) (he : PE X e ta) (hb : attributeBase e f X.env (eval e X.env) = eval e X.env := by rfl) : PE X (.Attribute e f pos) (tEf K f ta) := hK ▸ pe_ef he hb
theorem pe_fldK (K : PySem.W.Frag) (hK : X.K = K) (he : PE X e ta) (hb : attributeBase e f X.env (eval e X.env) = eval e X.env := by rfl) : PE X (.Attribute e f pos) (tFld K ta f) := hK ▸ pe_fld he hb
end
theorem atI_some {α : Type} {xs : List α} {i : Int} (h0 : 0 ≤ i) (h : i < xs.length) : ∃ v, atI xs i = some v ∧ v ∈ xs := by
  obtain ⟨j, rfl⟩ := Int.eq_ofNat_of_zero_le h0
  have hj : j < xs.length := by omega
  exact ⟨xs[j], atI_nat (by simp [hj]), List.getElem_mem hj⟩
def ps_X_BadPlace : List Str := ["self", "place"]
def sp_X_BadPlace (K : PySem.W.Frag) : Sp := spXc K "BadPlace" "place"
def ps_X_BadCount : List Str := ["self", "count"]
def sp_X_BadCount (K : PySem.W.Frag) : Sp := spX1 K "BadCount" "count"
def ps_X_BadTie : List Str := ["self", "index"]
def sp_X_BadTie (K : PySem.W.Frag) : Sp := spX1 K "BadTie" "index"
def ps_X_Loose : List Str := ["self", "lot"]
def sp_X_Loose (K : PySem.W.Frag) : Sp := spXc K "Loose" "lot"
theorem okW {P : Program} {w : World} {K : PySem.W.Frag} {mg : Str → Option Value} {base : Heap} {CX : CXT} {x qual : Str} {N ps : List Str} {k : Nat} {sp : Sp} {pa : Arguments} {bd : List Stmt} {sc : Scope} {dvs : List V} {f : Addr} {fd : FuncData} (F : FunD K x qual pa bd sc dvs [] f fd) (S : FnScope N ps sc) (len : ∀ vs H Q E, sp vs H Q E → vs.length = ps.length)
    (hbody : ∀ (cdv : Value) (A : Around) (outer : List Env) (s : Shared) (H : Hp) (vs : List V) (Q : VK) (E : XK), L2H.RoomH k (A.deeper (envOfC qual sc s.heap.objs.size f cdv)) → sp vs H Q E →
      ∃ t, PSs (cxW CX P w K mg base N qual sc f cdv A outer s H E) bd t ∧ t { nx := fun _ H' => Q .non H', rt := Q } (L2.start N vs) H) : FnW P w K mg base CX (k + 1) f fd ps sp := by
  obtain ⟨oc, od, dV, kV, doc, pm, an, cdv, ct, osl, rfl, lk, hcd, _, _⟩ := F.ex
  exact fn_ofW lk hcd S len fun A outer s H vs Q E hr hsp => hbody cdv A outer s H vs Q E hr hsp
theorem same_but {H H' : Hp} {a : Addr} {o : HO} (na : H a = none) (b : But a (upd H a o) H') : Same H H' := fun c u q => b c u (ne_of_none q na) (by rw [upd_ne (ne_of_none q na)]; exact q)
end K3
namespace K3
open PySem PySem.Spec PyProof.Rows L2 He HX
section
variable {P : Program} {w : World} {K : PySem.W.Frag} {mg : Str → Option Value} {base : Heap}
def NN_copied : List PySem.Str := ["value", "part"]
theorem sc_copied : FnScope NN_copied ["value"] (defScope (top 2)) := ⟨rfl, rfl, rfl, by decide +kernel, rfl, by decide +kernel, by decide +kernel⟩
def spCop0 : Sp := fun vs H Q _ => ∃ i : Int, vs = [.int i] ∧ Q (.int i) H
theorem tyx_tup {K : PySem.W.Frag} {H : Hp} {a : Addr} {xs : List V} (h : SqT K H a xs) : TyX K H (.ref a) (.type "tuple") := by
  rcases h with (h | ⟨o, h⟩) | ⟨o, its, n, h, c, _⟩
  · exact .base (.tup h)
  · exact .fTuple h
  · exact .kTuple h c
theorem tyx_lst {K : PySem.W.Frag} {H : Hp} {a : Addr} {xs : List V} (h : SqL K H a xs) : TyX K H (.ref a) (.type "list") := by
  rcases h with (h | ⟨o, h⟩) | ⟨o, its, n, h, c, _⟩
  · exact .base (.lst h)
  · exact .base (.frz h)
  · exact .kList h c
theorem ok_copied0 (h : HK K mg) : Cal P w K mg base 1 "copied" ["value"] spCop0 := by
  have F : FunD K "copied" "copied" (defArgs (top 2)) (defBody (top 2)) (defScope (top 2)) [] [] (ga K "copied") (fdA K (ga K "copied")) := h.says.funD 0
  have G : FnOk P w K mg base (L2.CX P w) (0 + 1) (ga K "copied") (fdA K (ga K "copied")) ["value"] spCop0 := okX F sc_copied (fun vs H Q E hs => by (repeat (obtain ⟨_, hs⟩ := hs)) <;> subst_vars <;> rfl) (fun cdv A outer s H vs Q E hr hs => ?_)
  · exact ⟨G, h.glo _, F.kp, F.bindsN (fun _ _ _ _ _ _ us hl => match us, hl with | [_], _ => rfl)⟩
  refine ⟨_, (pss_cons (ps_if (pt_val (pe_callB call_isi (by rfl) (h.free "isinstance") (by decide +kernel) (pa_cons (pv 0) (pa_cons (pe_bltn (v := .ty "list") (by rfl) (h.free "list") (by decide +kernel) rfl) pa_nil))))
        pss_never
        pss_nil)
      (pss_cons (ps_if (pt_val (pe_callB call_isi (by rfl) (h.free "isinstance") (by decide +kernel) (pa_cons (pv 0) (pa_cons (pe_bltn (v := .ty "tuple") (by rfl) (h.free "tuple") (by decide +kernel) rfl) pa_nil))))
        pss_never
        pss_nil)
      (pss_one (ps_ret (pv 0))))), ?_⟩
  obtain ⟨i, rfl, hq⟩ := hs
  refine ⟨_, rfl, _, _, _, _, _, rfl, .ty _, .base (.int _), kit_ty (r := false) (by decide +kernel), _, rfl, iteF ?_⟩
  exact ⟨_, rfl, _, _, _, _, _, rfl, .ty _, .base (.int _), kit_ty (r := false) (by decide +kernel), _, rfl, iteF ⟨_, rfl, hq⟩⟩
theorem ok_copied (h : HK K mg) : Cal P w K mg base 2 "copied" ["value"] (sp_copied K) := by
  have c0 : Cal P w K mg base 1 "copied" ["value"] spCop0 := ok_copied0 h
  have F : FunD K "copied" "copied" (defArgs (top 2)) (defBody (top 2)) (defScope (top 2)) [] [] (ga K "copied") (fdA K (ga K "copied")) := h.says.funD 0
  have G : FnOk P w K mg base (L2.CX P w) (1 + 1) (ga K "copied") (fdA K (ga K "copied")) ["value"] (sp_copied K) := okX F sc_copied (fun vs H Q E hs => by (repeat (obtain ⟨_, hs⟩ := hs)) <;> subst_vars <;> rfl) (fun cdv A outer s H vs Q E hr hs => ?_)
  · exact ⟨G, h.glo _, F.kp, F.bindsN (fun _ _ _ _ _ _ us hl => match us, hl with | [_], _ => rfl)⟩
  refine ⟨_, (pss_cons (ps_if (pt_val (pe_callB call_isi (by rfl) (h.free "isinstance") (by decide +kernel) (pa_cons (pv 0) (pa_cons (pe_bltn (v := .ty "list") (by rfl) (h.free "list") (by decide +kernel) rfl) pa_nil))))
        (pss_one (ps_ret (pe_lc (own := [("part", 1)]) (g := gName 1) (by rfl) sc_copied.nd (pi_list (pv 0)) (blkOk_by (own := [("part", 1)]) (N := NN_copied) (sc := defScope (top 2)) (by decide +kernel)) (fun _ _ _ _ _ => pg_name (i := 1) sc_copied.nd rfl (Or.inl rfl)) (fun _ _ _ _ _ => pts_nil) (fun _ _ _ _ _ => (pe_cal c0 hr passL (pa_cons (pv 1) pa_nil))))))
        pss_nil)
      (pss_cons (ps_if (pt_val (pe_callB call_isi (by rfl) (h.free "isinstance") (by decide +kernel) (pa_cons (pv 0) (pa_cons (pe_bltn (v := .ty "tuple") (by rfl) (h.free "tuple") (by decide +kernel) rfl) pa_nil))))
        (pss_one (ps_ret (pe_callTy call_tuple_of (by rfl) (h.free "tuple") (by decide +kernel) (pa_cons (pe_lc (own := [("part", 1)]) (g := gName 1) (by rfl) sc_copied.nd (pi_tup (pv 0)) (blkOk_by (own := [("part", 1)]) (N := NN_copied) (sc := defScope (top 2)) (by decide +kernel)) (fun _ _ _ _ _ => pg_name (i := 1) sc_copied.nd rfl (Or.inl rfl)) (fun _ _ _ _ _ => pts_nil) (fun _ _ _ _ _ => (pe_cal c0 hr passL (pa_cons (pv 1) pa_nil)))) pa_nil))))
        pss_nil)
      (pss_one (ps_ret (pv 0))))), ?_⟩
  have step : ∀ (D : Addr) (ns : List Int) (i : Nat) (x : V), H D = none → ns.length ≤ 100 → (ns.map V.int)[i]? = some x → ∃ c : Int, x = .int c ∧ ((((ns.take i).map V.int)).length < sizeLine) ∧ upd (upd H D (.lst ((ns.take i).map V.int))) D (.lst ((ns.take i).map V.int ++ [V.int c])) = upd H D (.lst ((ns.take (i + 1)).map V.int)) := fun D ns i x hD hn hv => by
    rw [List.getElem?_map] at hv
    obtain ⟨c, ec, rfl⟩ := Option.map_eq_some_iff.mp hv
    refine ⟨c, rfl, small_lt (by rw [List.length_map, List.length_take]; omega), ?_⟩
    rw [upd_upd, List.take_succ, ec, List.map_append]
    rfl
  obtain ⟨v, c, rfl, hv, hq⟩ := hs
  rcases c with i | ns | ns
  · cases (show v = V.int i from hv)
    refine ⟨_, rfl, _, _, _, _, _, rfl, .ty _, .base (.int _), kit_ty (r := false) (by decide +kernel), _, rfl, iteF ?_⟩
    exact ⟨_, rfl, _, _, _, _, _, rfl, .ty _, .base (.int _), kit_ty (r := false) (by decide +kernel), _, rfl, iteF ⟨_, rfl, hq H _ (Same.refl H) rfl⟩⟩
  · obtain ⟨a, rfl, hn, ha⟩ := hv
    refine ⟨_, rfl, _, _, _, _, _, rfl, .ty _, tyx_tup ha, kit_ty (r := false) (by decide +kernel), _, rfl, iteF ?_⟩
    refine ⟨_, rfl, _, _, _, _, _, rfl, .ty _, tyx_tup ha, kit_ty (r := true) (by decide +kernel), _, rfl, iteT ?_⟩
    refine ⟨_, rfl, a, rfl, ⟨_, ha⟩, fun D hD => lc_tup (K := K) (a := a) (xs := ns.map V.int) (fun i H' => H' = upd H D (.lst ((ns.take i).map V.int))) rfl ?_ ?_ ?_⟩
    · rintro i H' _ rfl
      exact (same_upd hD).tup ha
    · rintro i x H' hx rfl
      obtain ⟨c, rfl, hz, he⟩ := step D ns i x hD hn hx
      exact ⟨rfl, _, rfl, c, rfl, _, upd_same, hz, he⟩
    · rintro H' rfl
      rw [List.length_map, List.take_length]
      exact ⟨D, _, rfl, .inl ⟨SqL.of upd_same, fun q hq' => hq _ _ ((same_upd hD).trans (same_upd hq')) ⟨q, rfl, SqT.of upd_same⟩⟩⟩
  · obtain ⟨a, rfl, hn, ha⟩ := hv
    refine ⟨_, rfl, _, _, _, _, _, rfl, .ty _, tyx_lst ha, kit_ty (r := true) (by decide +kernel), _, rfl, iteT ?_⟩
    refine ⟨_, rfl, a, rfl, ⟨_, ha⟩, fun D hD => lc_list (K := K) (a := a) (xs := ns.map V.int) (fun i H' => H' = upd H D (.lst ((ns.take i).map V.int))) rfl ?_ ?_ ?_⟩
    · rintro i H' _ rfl
      exact (same_upd hD).seq ha
    · rintro i x H' hx rfl
      obtain ⟨c, rfl, hz, he⟩ := step D ns i x hD hn hx
      exact ⟨rfl, _, rfl, c, rfl, _, upd_same, hz, he⟩
    · rintro H' rfl
      rw [List.length_map, List.take_length]
      exact hq _ _ (same_upd hD) ⟨D, rfl, hD, upd_same⟩
end
end K3
namespace K3
open PySem PySem.Spec PyProof.Rows L2 He HX
section
variable {w : World} {K : PySem.W.Frag} {mg : Str → Option Value} {base : Heap}
theorem sx_BadPlace : SupScope ps_X_BadPlace ps_X_BadPlace (defScope (inClass (top 4) 0)) := ⟨rfl, rfl, rfl, by decide +kernel, rfl, by decide +kernel, by decide +kernel, by decide +kernel, by decide +kernel, by decide +kernel⟩
theorem ok_X_BadPlace (h : HK K mg) (c_copied : Cal PR w K mg base 2 "copied" ["value"] (sp_copied K)) : CalX PR w K mg base 3 "BadPlace" ps_X_BadPlace (sp_X_BadPlace K) := by
  obtain ⟨cc, cda, oc, od, kV, doc, pm, an, ct, osl, ef, lk, hcd, T⟩ := h.init "BadPlace" 44 (d := x_BadPlace) rfl rfl rfl rfl
  have ee := h.ef "BadPlace"
  have G : FnOk PR w K mg base (L2.CX PR w) (2 + 1) (ma K (ga K "BadPlace") "__init__") (PySem.W.fnX "__init__" "BadPlace.__init__" (defArgs (inClass (top 4) 0)) (defBody (inClass (top 4) 0)) (defScope (inClass (top 4) 0)) [("__class__", cc)] .none kV doc pm an (.ref cda) ct) ps_X_BadPlace (sp_X_BadPlace K) := by
    refine fn_ofS (pa := ⟨0, 0, 0, 0⟩) lk hcd sx_BadPlace rfl ⟨_, _, rfl⟩ T (fun L => ⟨_, rfl⟩) (fun vs H Q E hs => by (repeat (obtain ⟨_, hs⟩ := hs)) <;> subst_vars <;> rfl) (fun vs H Q E hs => ?_) (fun A outer s H vs Q E hr hs => ?_)
    · obtain ⟨a, y, _, rfl, ha, _⟩ := hs
      exact ⟨a, [y], rfl, ha⟩
    · obtain ⟨a, y, c, rfl, ha, hc, hq⟩ := hs
      refine ⟨_, pss_one (ps_ost (pv 0) (pe_cal c_copied hr passL (pa_cons (pv 1) pa_nil))), ?_⟩
      refine ⟨_, rfl, y, c, rfl, hc, fun H1 y1 s1 r1 => ?_⟩
      refine ⟨_, rfl, a, _, rfl, ee.oex, h.fld "BadPlace" "place", .inl ⟨s1 _ _ ha, fun dx nd ne => ?_⟩⟩
      have nd0 : H dx = none := s1.free nd
      have keep : ∀ b o, b ≠ a → H1 b = some o → (upd (upd H1 dx (exd dx [("place", y1)])) a (exo a (ga K "BadPlace") (some dx))) b = some o := fun b o n q => by
        rw [upd_ne n, upd_ne (ne_of_none q nd)]
        exact q
      refine hq _ dx y1 (fun b o n q => keep b o n (s1 _ _ q)) upd_same nd0 ne (by rw [upd_ne ne, upd_same]) (r1.keep (s1 _ _ ha) keep)
  have ef2 : fdA K (ma K (ga K "BadPlace") "__init__") = PySem.W.fnX "__init__" "BadPlace.__init__" (defArgs (inClass (top 4) 0)) (defBody (inClass (top 4) 0)) (defScope (inClass (top 4) 0)) [("__class__", cc)] .none kV doc pm an (.ref cda) ct := ef
  refine ⟨by rw [ef2]; exact G, h.glo "BadPlace", ee, ?_⟩
  rw [ef2]
  exact .all fun us hl => match us, hl with | [_, _], _ => rfl
theorem sx_BadCount : SupScope ps_X_BadCount ps_X_BadCount (defScope (inClass (top 5) 0)) := ⟨rfl, rfl, rfl, by decide +kernel, rfl, by decide +kernel, by decide +kernel, by decide +kernel, by decide +kernel, by decide +kernel⟩
theorem ok_X_BadCount (h : HK K mg) : CalX PR w K mg base 1 "BadCount" ps_X_BadCount (sp_X_BadCount K) := by
  obtain ⟨cc, cda, oc, od, kV, doc, pm, an, ct, osl, ef, lk, hcd, T⟩ := h.init "BadCount" 45 (d := x_BadCount) rfl rfl rfl rfl
  have ee := h.ef "BadCount"
  have G : FnOk PR w K mg base (L2.CX PR w) (0 + 1) (ma K (ga K "BadCount") "__init__") (PySem.W.fnX "__init__" "BadCount.__init__" (defArgs (inClass (top 5) 0)) (defBody (inClass (top 5) 0)) (defScope (inClass (top 5) 0)) [("__class__", cc)] .none kV doc pm an (.ref cda) ct) ps_X_BadCount (sp_X_BadCount K) := by
    refine fn_ofS (pa := ⟨0, 0, 0, 0⟩) lk hcd sx_BadCount rfl ⟨_, _, rfl⟩ T (fun L => ⟨_, rfl⟩) (fun vs H Q E hs => by (repeat (obtain ⟨_, hs⟩ := hs)) <;> subst_vars <;> rfl) (fun vs H Q E hs => ?_) (fun A outer s H vs Q E hr hs => ?_)
    · obtain ⟨a, y, rfl, ha, _⟩ := hs
      exact ⟨a, [y], rfl, ha⟩
    · obtain ⟨a, y, rfl, ha, hq⟩ := hs
      refine ⟨_, pss_one (ps_ost (pv 0) (pv 1)), ?_⟩
      refine ⟨_, rfl, _, rfl, a, _, rfl, ee.oex, h.fld "BadCount" "count", .inl ⟨ha, fun dx nd ne => ?_⟩⟩
      refine hq _ dx (fun b o n q => ?_) upd_same nd ne (by rw [upd_ne ne, upd_same])
      rw [upd_ne n, upd_ne (ne_of_none q nd)]
      exact q
  have ef2 : fdA K (ma K (ga K "BadCount") "__init__") = PySem.W.fnX "__init__" "BadCount.__init__" (defArgs (inClass (top 5) 0)) (defBody (inClass (top 5) 0)) (defScope (inClass (top 5) 0)) [("__class__", cc)] .none kV doc pm an (.ref cda) ct := ef
  refine ⟨by rw [ef2]; exact G, h.glo "BadCount", ee, ?_⟩
  rw [ef2]
  exact .all fun us hl => match us, hl with | [_, _], _ => rfl
theorem sx_BadTie : SupScope ps_X_BadTie ps_X_BadTie (defScope (inClass (top 6) 0)) := ⟨rfl, rfl, rfl, by decide +kernel, rfl, by decide +kernel, by decide +kernel, by decide +kernel, by decide +kernel, by decide +kernel⟩
theorem ok_X_BadTie (h : HK K mg) : CalX PR w K mg base 1 "BadTie" ps_X_BadTie (sp_X_BadTie K) := by
  obtain ⟨cc, cda, oc, od, kV, doc, pm, an, ct, osl, ef, lk, hcd, T⟩ := h.init "BadTie" 46 (d := x_BadTie) rfl rfl rfl rfl
  have ee := h.ef "BadTie"
  have G : FnOk PR w K mg base (L2.CX PR w) (0 + 1) (ma K (ga K "BadTie") "__init__") (PySem.W.fnX "__init__" "BadTie.__init__" (defArgs (inClass (top 6) 0)) (defBody (inClass (top 6) 0)) (defScope (inClass (top 6) 0)) [("__class__", cc)] .none kV doc pm an (.ref cda) ct) ps_X_BadTie (sp_X_BadTie K) := by
    refine fn_ofS (pa := ⟨0, 0, 0, 0⟩) lk hcd sx_BadTie rfl ⟨_, _, rfl⟩ T (fun L => ⟨_, rfl⟩) (fun vs H Q E hs => by (repeat (obtain ⟨_, hs⟩ := hs)) <;> subst_vars <;> rfl) (fun vs H Q E hs => ?_) (fun A outer s H vs Q E hr hs => ?_)
    · obtain ⟨a, y, rfl, ha, _⟩ := hs
      exact ⟨a, [y], rfl, ha⟩
    · obtain ⟨a, y, rfl, ha, hq⟩ := hs
      refine ⟨_, pss_one (ps_ost (pv 0) (pv 1)), ?_⟩
      refine ⟨_, rfl, _, rfl, a, _, rfl, ee.oex, h.fld "BadTie" "index", .inl ⟨ha, fun dx nd ne => ?_⟩⟩
      refine hq _ dx (fun b o n q => ?_) upd_same nd ne (by rw [upd_ne ne, upd_same])
      rw [upd_ne n, upd_ne (ne_of_none q nd)]
      exact q
  have ef2 : fdA K (ma K (ga K "BadTie") "__init__") = PySem.W.fnX "__init__" "BadTie.__init__" (defArgs (inClass (top 6) 0)) (defBody (inClass (top 6) 0)) (defScope (inClass (top 6) 0)) [("__class__", cc)] .none kV doc pm an (.ref cda) ct := ef
  refine ⟨by rw [ef2]; exact G, h.glo "BadTie", ee, ?_⟩
  rw [ef2]
  exact .all fun us hl => match us, hl with | [_, _], _ => rfl
theorem sx_Loose : SupScope ps_X_Loose ps_X_Loose (defScope (inClass (top 7) 0)) := ⟨rfl, rfl, rfl, by decide +kernel, rfl, by decide +kernel, by decide +kernel, by decide +kernel, by decide +kernel, by decide +kernel⟩
theorem ok_X_Loose (h : HK K mg) (c_copied : Cal PR w K mg base 2 "copied" ["value"] (sp_copied K)) : CalX PR w K mg base 3 "Loose" ps_X_Loose (sp_X_Loose K) := by
  obtain ⟨cc, cda, oc, od, kV, doc, pm, an, ct, osl, ef, lk, hcd, T⟩ := h.init "Loose" 47 (d := x_Loose) rfl rfl rfl rfl
  have ee := h.ef "Loose"
  have G : FnOk PR w K mg base (L2.CX PR w) (2 + 1) (ma K (ga K "Loose") "__init__") (PySem.W.fnX "__init__" "Loose.__init__" (defArgs (inClass (top 7) 0)) (defBody (inClass (top 7) 0)) (defScope (inClass (top 7) 0)) [("__class__", cc)] .none kV doc pm an (.ref cda) ct) ps_X_Loose (sp_X_Loose K) := by
    refine fn_ofS (pa := ⟨0, 0, 0, 0⟩) lk hcd sx_Loose rfl ⟨_, _, rfl⟩ T (fun L => ⟨_, rfl⟩) (fun vs H Q E hs => by (repeat (obtain ⟨_, hs⟩ := hs)) <;> subst_vars <;> rfl) (fun vs H Q E hs => ?_) (fun A outer s H vs Q E hr hs => ?_)
    · obtain ⟨a, y, _, rfl, ha, _⟩ := hs
      exact ⟨a, [y], rfl, ha⟩
    · obtain ⟨a, y, c, rfl, ha, hc, hq⟩ := hs
      refine ⟨_, pss_one (ps_ost (pv 0) (pe_cal c_copied hr passL (pa_cons (pv 1) pa_nil))), ?_⟩
      refine ⟨_, rfl, y, c, rfl, hc, fun H1 y1 s1 r1 => ?_⟩
      refine ⟨_, rfl, a, _, rfl, ee.oex, h.fld "Loose" "lot", .inl ⟨s1 _ _ ha, fun dx nd ne => ?_⟩⟩
      have nd0 : H dx = none := s1.free nd
      have keep : ∀ b o, b ≠ a → H1 b = some o → (upd (upd H1 dx (exd dx [("lot", y1)])) a (exo a (ga K "Loose") (some dx))) b = some o := fun b o n q => by
        rw [upd_ne n, upd_ne (ne_of_none q nd)]
        exact q
      refine hq _ dx y1 (fun b o n q => keep b o n (s1 _ _ q)) upd_same nd0 ne (by rw [upd_ne ne, upd_same]) (r1.keep (s1 _ _ ha) keep)
  have ef2 : fdA K (ma K (ga K "Loose") "__init__") = PySem.W.fnX "__init__" "Loose.__init__" (defArgs (inClass (top 7) 0)) (defBody (inClass (top 7) 0)) (defScope (inClass (top 7) 0)) [("__class__", cc)] .none kV doc pm an (.ref cda) ct := ef
  refine ⟨by rw [ef2]; exact G, h.glo "Loose", ee, ?_⟩
  rw [ef2]
  exact .all fun us hl => match us, hl with | [_, _], _ => rfl
end
end K3
/-! what each def of k53 promises -/
namespace K3
open PySem PySem.Spec PyProof.Rows L2 He HX KG
/-- Web(..): its __init__ -/
structure CalI (P : Program) (w : World) (K : PySem.W.Frag) (mg : Str → Option Value) (base : Heap) (k : Nat) (ps : List Str) (sp : Sp) : Prop where
  ok : FnOk P w K mg base (L2.CX P w) k (ma K (wC K) "__init__") (fdA K (ma K (wC K) "__init__")) ps sp
  b : Binds K (fdA K (ma K (wC K) "__init__")) ps []
/-- a generator def -/
structure CalG (P : Program) (w : World) (K : PySem.W.Frag) (mg : Str → Option Value) (base : Heap) (k : Nat) (x : Str) (ps : List Str) (sp : SpG) : Prop where
  ok : GFn P w K mg base k (ga K x) (fdA K (ga K x)) ps sp
  at_ : mg x = some (.ref (ga K x))
  kp : PySem.W.keepIn K (.ref (ga K x)) = true
  b : Binds K (fdA K (ga K x)) ps []
theorem okG {P : Program} {w : World} {K : PySem.W.Frag} {mg : Str → Option Value} {base : Heap} {x qual : Str} {N ps : List Str} {k : Nat} {sp : SpG} {pa : Arguments} {bd : List Stmt} {sc : Scope} {dvs : List V} {f : Addr} {fd : FuncData} (F : FunD K x qual pa bd sc dvs [] f fd) (S : GScope N ps sc) (len : ∀ vs H Q E, sp vs H Q E → vs.length = ps.length)
    (hbody : ∀ (cdv : Value) (A : Around) (outer : List Env) (s : Shared) (H : Hp) (vs : List V) (Q : List V → Hp → Prop) (E : XK) (pn : List (Addr × Obj)), Room k (A.deeper (envOfC qual sc s.heap.objs.size f cdv)) → sp vs H Q E →
      ∃ t, GSs (gcxOf P w K mg base N qual sc f cdv A outer s H E pn) bd t ∧ t { nx := fun ys _ H' => Q ys H', rt := fun ys v H' => v = .non ∧ Q ys H' } [] (L2.start N vs) H) : GFn P w K mg base (k + 1) f fd ps sp := by
  obtain ⟨oc, od, dV, kV, doc, pm, an, cdv, ct, osl, rfl, lk, hcd, _, _⟩ := F.ex
  exact gfn_of lk hcd S len fun A outer s H vs Q E pn hr hsp => hbody cdv A outer s H vs Q E pn hr hsp
/-! ### rules within a comprehension's block: the fragment by name -/
section
variable {X : Cx} {pos : Pos} {e iter tg : Expr}
def rTupOf (K : PySem.W.Frag) : List V → Hp → VK → Prop := fun xs H Q => ∃ p ys, xs = [.ref p] ∧ ((SqL K H p ys ∧ ∀ l, H l = none → Q (.ref l) (upd H l (.tup ys))) ∨ (SqT K H p ys ∧ Q (.ref p) H))
theorem call_tuple_ofK (K : PySem.W.Frag) (hK : X.K = K) : CallR X (.type "tuple") (rTupOf K) := hK ▸ call_tuple_of
theorem ix_listK (K : PySem.W.Frag) (hK : X.K = K) : IxR X (rIxL K) := hK ▸ ix_list
theorem ix_tupK (K : PySem.W.Frag) (hK : X.K = K) : IxR X (rIxT K) := hK ▸ ix_tup
theorem op_in_seqK (K : PySem.W.Frag) (hK : X.K = K) : OpR X (compareOp .In) (rIn K false) := hK ▸ op_in_seq
theorem op_notIn_seqK (K : PySem.W.Frag) (hK : X.K = K) : OpR X (compareOp .NotIn) (rIn K true) := hK ▸ op_notIn_seq
theorem op_catAK (K : PySem.W.Frag) (hK : X.K = K) : OpR X (binaryOp .Add) (rCatA K) := hK ▸ op_catA
theorem cr_anyIK (K : PySem.W.Frag) (hK : X.K = K) (hc : X.calm = true) : CallR X (.builtin "any") (rAnyI K) := hK ▸ cr_anyI hc
theorem pi_listK (K : PySem.W.Frag) (hK : X.K = K) {tl : TE} (h : PE X iter tl) : PI X tg iter (iList K tl) := hK ▸ pi_list h
theorem pi_tupK (K : PySem.W.Frag) (hK : X.K = K) {tl : TE} (h : PE X iter tl) : PI X tg iter (iTup K tl) := hK ▸ pi_tup h
theorem pt_truthK (K : PySem.W.Frag) (hK : X.K = K) {ta : TE} (ha : PE X e ta) (he : ∀ whole, isTrue e X.env whole = (do let v ← whole; standAt e.pos; holding [v] (truthy v))) :
    PT X e (fun σ H Q => ta σ H fun x H' => ∃ k, TruV K x H' k ∧ Q k H') := hK ▸ pt_truth ha he
theorem pg_tupK (K : PySem.W.Frag) (hK : X.K = K) {es : List Expr} {k : Nat} {t : TGs} {n : Nat} (hc : X.calm = true) (h : PGs X es t)
    (hn : (assignEach es X.env).length = n := by rfl) (hst : (assignEach es X.env).findIdx? (·.1) = none := by rfl) : PG X (.Tuple es k pos) (gTup K n t) := hK ▸ pg_tup hc h hn hst
end
/-! ### a Loose that leaves a try's body -/
abbrev LooseK (K : PySem.W.Frag) (W : WX) (n : Nat) : XK := fun cls d H => EL W n cls d H ∧ cls = .ref (ga K "Loose")
theorem passLoose {X : Cx} {W : WX} (K : PySem.W.Frag) (tk : Takes X W) : Passes (L2.CX X.prog X.w) X (LooseK K W X.N.length) := fun _ σ _ _ e s' I c => tk e s' (XE.of_call I (fun _ _ _ h => h.1 σ I.len) c)
theorem noStop_T {K : PySem.W.Frag} {mg : Str → Option Value} (h : HK K mg) {W : WX} {n : Nat} : NoStop K (LooseK K W n) := fun cls d H e => by
  rw [e.2]
  show PySem.W.mroIn K (ga K "Loose") (.type "StopIteration") = some false
  rw [mroIn_of (h.ef "Loose" (by decide +kernel)).mro]
  have e1 : decide (Value.type "StopIteration" = .ref (ga K "Loose")) = false := decide_eq_false fun z => nomatch z
  have e2 : decide (Value.type "StopIteration" = .ref (ga K "LatticeError")) = false := decide_eq_false fun z => nomatch z
  rw [e1, e2, show veBase.contains (Value.type "StopIteration") = false by decide +kernel]
  rfl
/-! ### numbers, rows -/
abbrev nI (n : Nat) : V := .int (n : Int)
abbrev nL (l : List Nat) : List V := l.map nI
abbrev iL (l : List Int) : List V := l.map V.int
/-- v is a tuple of these whole numbers -/
def Row (K : PySem.W.Frag) (H : Hp) (v : V) (ns : List Int) : Prop := ∃ t, v = .ref t ∧ SqT K H t (iL ns)
def RowsAt (K : PySem.W.Frag) (H : Hp) (xs : List V) (D : List (List Int)) : Prop := xs.length = D.length ∧ ∀ (i : Nat) (v : V) (d : List Int), xs[i]? = some v → D[i]? = some d → Row K H v d
abbrev Tie := Nat × Nat × Int
abbrev tieR (t : Tie) : List Int := [(t.1 : Int), (t.2.1 : Int), t.2.2]
abbrev arcs (Ts : List Tie) : List Arc := Ts.map fun t => (t.1, t.2.1)
abbrev arcR (a : Arc) : List Int := [(a.1 : Int), (a.2 : Int)]
def TiesOk (n : Nat) (Ts : List Tie) : Prop := ∀ t ∈ Ts, t.1 < n ∧ t.2.1 < n ∧ t.1 ≠ t.2.1 ∧ 0 < t.2.2
structure GoodW (n : Nat) (Ts : List Tie) : Prop where
  n1 : 1 ≤ n
  n6 : n ≤ 6
  len : Ts.length ≤ 10
  ok : TiesOk n Ts
theorem TiesOk.inn {n : Nat} {Ts : List Tie} (h : TiesOk n Ts) : In n (arcs Ts) := fun a m => by
  obtain ⟨t, mt, rfl⟩ := List.mem_map.mp m
  exact ⟨(h t mt).1, (h t mt).2.1⟩
def WebAt (K : PySem.W.Frag) (H : Hp) (a : Addr) (n : Nat) (Ts : List Tie) : Prop := ∃ (dx t : Addr) (xs : List V), H a = some (.ins (wC K) dx [("places", nI n), ("ties", .ref t)]) ∧ SqT K H t xs ∧ RowsAt K H xs (Ts.map tieR)
def JoinedW (n : Nat) (Ts : List Tie) : Prop := (lotOf n (arcs Ts) 0).length = n
open Classical in
noncomputable def idleL (n : Nat) (T : List Arc) : List Nat := (List.range T.length).filter fun i => !decide (∀ v, v < n → Con (T.eraseIdx i) 0 v)
noncomputable def menusL (n : Nat) (T : List Arc) : List (List Int) := (List.range T.length).map fun i => if i ∈ idleL n T then [0] else [-1, 1]
/-! ### what stays -/
theorem sqt_keep {K : PySem.W.Frag} {H H' : Hp} {a : Addr} {xs : List V} (e : ∀ b o, H b = some o → (∀ ys, o ≠ .lst ys) → H' b = some o) (h : SqT K H a xs) : SqT K H' a xs := by
  rcases h with (h | ⟨o, h⟩) | h
  · exact .inl (.inl (e _ _ h fun _ z => nomatch z))
  · exact .inl (.inr ⟨o, e _ _ h fun _ z => nomatch z⟩)
  · exact .inr h
theorem sqt_updL {K : PySem.W.Frag} {H : Hp} {a l : Addr} {xs ys : List V} {o : HO} (hl : H l = some (.lst ys)) (h : SqT K H a xs) : SqT K (upd H l o) a xs := by
  refine sqt_keep (fun b u q n => ?_) h
  rw [upd_ne (fun z => by rw [z, hl] at q; exact n ys (Option.some.inj q).symm)]
  exact q
theorem Row.mono {K : PySem.W.Frag} {H H' : Hp} {v : V} {d : List Int} (e : ∀ t xs, SqT K H t xs → SqT K H' t xs) (h : Row K H v d) : Row K H' v d := by
  obtain ⟨t, rfl, h⟩ := h
  exact ⟨t, rfl, e _ _ h⟩
theorem RowsAt.mono {K : PySem.W.Frag} {H H' : Hp} {xs : List V} {D : List (List Int)} (e : ∀ t xs, SqT K H t xs → SqT K H' t xs) (h : RowsAt K H xs D) : RowsAt K H' xs D := ⟨h.1, fun i v d a b => (h.2 i v d a b).mono e⟩
theorem RowsAt.same {K : PySem.W.Frag} {H H' : Hp} {xs : List V} {D : List (List Int)} (e : Same H H') (h : RowsAt K H xs D) : RowsAt K H' xs D := h.mono fun _ _ q => e.tup q
theorem RowsAt.updL {K : PySem.W.Frag} {H : Hp} {l : Addr} {xs ys : List V} {D : List (List Int)} {o : HO} (hl : H l = some (.lst ys)) (h : RowsAt K H xs D) : RowsAt K (upd H l o) xs D := h.mono fun _ _ q => sqt_updL hl q
theorem RowsAt.nil {K : PySem.W.Frag} {H : Hp} : RowsAt K H [] [] := ⟨rfl, fun i v d a => by simp at a⟩
theorem RowsAt.get {K : PySem.W.Frag} {H : Hp} {xs : List V} {D : List (List Int)} {i : Nat} {v : V} (h : RowsAt K H xs D) (e : xs[i]? = some v) : ∃ d, D[i]? = some d ∧ Row K H v d := by
  have hi : i < D.length := by
    rw [← h.1]
    exact (List.getElem?_eq_some_iff.mp e).1
  exact ⟨D[i], List.getElem?_eq_getElem hi, h.2 i v _ e (List.getElem?_eq_getElem hi)⟩
theorem RowsAt.snoc {K : PySem.W.Frag} {H : Hp} {xs : List V} {D : List (List Int)} {v : V} {d : List Int} (h : RowsAt K H xs D) (r : Row K H v d) : RowsAt K H (xs ++ [v]) (D ++ [d]) := by
  refine ⟨by simp [h.1], fun i w e a b => ?_⟩
  by_cases c : i < xs.length
  · rw [List.getElem?_append_left c] at a
    rw [List.getElem?_append_left (by rw [← h.1]; exact c)] at b
    exact h.2 i w e a b
  · rw [List.getElem?_append_right (by omega)] at a
    rw [List.getElem?_append_right (by rw [← h.1]; omega), ← h.1] at b
    cases q : i - xs.length with
    | zero =>
      rw [q] at a b
      cases a
      cases b
      exact r
    | succ j =>
      rw [q] at a
      simp at a
theorem RowsAt.sub {K : PySem.W.Frag} {H : Hp} {xs ys : List V} {D E : List (List Int)} (h : RowsAt K H xs D) (f : Nat → Nat) (l : ys.length = E.length) (e1 : ∀ i, i < ys.length → ys[i]? = xs[f i]?) (e2 : ∀ i, i < E.length → E[i]? = D[f i]?) : RowsAt K H ys E := ⟨l, fun i v d a b => by
  have hi := (List.getElem?_eq_some_iff.mp a).1
  rw [e1 i hi] at a
  rw [e2 i (by rw [← l]; exact hi)] at b
  exact h.2 _ v d a b⟩
theorem WebAt.same {K : PySem.W.Frag} {H H' : Hp} {a : Addr} {n : Nat} {Ts : List Tie} (e : Same H H') (h : WebAt K H a n Ts) : WebAt K H' a n Ts := by
  obtain ⟨dx, t, xs, h1, h2, h3⟩ := h
  exact ⟨dx, t, xs, e _ _ h1, e.tup h2, h3.same e⟩
theorem WebAt.pool {K : PySem.W.Frag} {p : Addr} {H H' : Hp} {a : Addr} {n : Nat} {Ts : List Tie} (hp : PoolAt H p) (e : PoolTo p H H') (h : WebAt K H a n Ts) : WebAt K H' a n Ts := by
  obtain ⟨dx, t, xs, h1, h2, h3⟩ := h
  obtain ⟨ys, ep, _⟩ := id hp
  exact ⟨dx, t, xs, e.1 _ _ (fun z => by rw [z, ep] at h1; cases h1) h1, e.tup hp h2, h3.mono fun _ _ q => e.tup hp q⟩
/-! ### lists of lists, of pairs -/
def ListsAt (K : PySem.W.Frag) (H : Hp) (xs : List V) (D : List (List Int)) : Prop := xs.length = D.length ∧ ∀ (i : Nat) (v : V) (d : List Int), xs[i]? = some v → D[i]? = some d → ∃ l, v = .ref l ∧ SqL K H l (iL d)
def WaysAt (K : PySem.W.Frag) (H : Hp) (xs : List V) (ws : List (Option (List Int))) : Prop := xs.length = ws.length ∧ ∀ (i : Nat) (v : V) (o : Option (List Int)), xs[i]? = some v → ws[i]? = some o → (o = none → v = .non) ∧ ∀ w, o = some w → ∃ l, v = .ref l ∧ SqL K H l (iL w)
/-- (direction, masks) -/
def StepAt (K : PySem.W.Frag) (H : Hp) (v : V) (d : List Int × List Nat) : Prop := ∃ p q l, v = .ref p ∧ SqT K H p [.ref q, .ref l] ∧ SqT K H q (iL d.1) ∧ SqL K H l (nL d.2)
def StepsAt (K : PySem.W.Frag) (H : Hp) (xs : List V) (D : List (List Int × List Nat)) : Prop := xs.length = D.length ∧ ∀ (i : Nat) (v : V) (d : List Int × List Nat), xs[i]? = some v → D[i]? = some d → StepAt K H v d
def StepX (K : PySem.W.Frag) (P : Addr → Prop) (H : Hp) (v : V) (d : List Int × List Nat) : Prop := ∃ p q l, v = .ref p ∧ SqT K H p [.ref q, .ref l] ∧ SqT K H q (iL d.1) ∧ H l = some (.lst (nL d.2)) ∧ P l
def StepsX (K : PySem.W.Frag) (P : Addr → Prop) (H : Hp) (xs : List V) (E : List (List Int × List Nat)) : Prop := xs.length = E.length ∧ ∀ (i : Nat) (v : V) (d : List Int × List Nat), xs[i]? = some v → E[i]? = some d → StepX K P H v d
def stepsOf (ms : List Nat) (w : List Int) (a b : Nat) : List (List Int × List Nat) :=
  (if (ms.getD a 0).testBit b then [] else [(w ++ [-1], withArc ms b a)]) ++ (if (ms.getD b 0).testBit a then [] else [(w ++ [1], withArc ms a b)])
/-- the flows tell which ties are idle -/
def FlowsOf (n : Nat) (T : List Arc) (fl : List (List Int)) : Prop := (∀ f ∈ fl, f.length = T.length) ∧ ∀ i, i < T.length → ((∀ f ∈ fl, f.getD i 0 = 0) ↔ ¬ ∀ v, v < n → Con (T.eraseIdx i) 0 v)
/-! ### the promises -/
section
variable (K : PySem.W.Frag)
def sp_hanging : Sp := fun vs H Q _ => ∃ (n p : Nat) (lot t : Addr) (xs : List V) (Ts : List Tie), vs = [nI p, .ref lot, .ref t] ∧ SqL K H lot (nL (List.range n)) ∧ SqT K H t xs ∧ RowsAt K H xs (Ts.map tieR) ∧ In n (arcs Ts) ∧ p < n ∧ n ≤ 6 ∧
  ∀ H' l, Same H H' → H l = none → H' l = some (.lst (nL (lotOf n (arcs Ts) p))) → Q (.ref l) H'
def sp_joined_marks : Sp := fun vs H Q _ => ∃ (l : Addr) (ms : List Nat) (a b p q : Nat), vs = [.ref l, nI a, nI b] ∧ SqL K H l (nL ms) ∧ ms[a]? = some p ∧ ms[b]? = some q ∧ ms.length ≤ 100 ∧ ∀ H' r, Same H H' → H r = none → H' r = some (.lst (nL (renM ms p q))) → Q (.ref r) H'
def sp_look_joined : Sp := fun vs H Q E => ∃ (a : Addr) (n : Nat) (Ts : List Tie), vs = [.ref a] ∧ WebAt K H a n Ts ∧ GoodW n Ts ∧ (JoinedW n Ts → ∀ H', Same H H' → Q .non H') ∧
  (¬ JoinedW n Ts → ∀ H' dx q, Same H H' → H' dx = some (exd dx [("lot", .ref q)]) → SqT K H' q (nL (lotOf n (arcs Ts) 0)) → E (.ref (ga K "Loose")) (some dx) H')
def sp_Webd_initd : Sp := fun vs H Q _ => ∃ (a l dx : Addr) (n : Nat) (xs : List V) (Ts : List Tie), vs = [.ref a, nI n, .ref l] ∧ H a = some (.ins (wC K) dx []) ∧ SqL K H l xs ∧ RowsAt K H xs (Ts.map tieR) ∧ GoodW n Ts ∧ ∀ H', But a H H' → WebAt K H' a n Ts → Q .non H'
def sp_Web_together : Sp := fun vs H Q _ => ∃ (a : Addr) (n p : Nat) (Ts : List Tie), vs = [.ref a, nI p] ∧ WebAt K H a n Ts ∧ GoodW n Ts ∧ p < n ∧ ∀ H' q, Same H H' → SqT K H' q (nL (lotOf n (arcs Ts) p)) → Q (.ref q) H'
open Classical in
def sp_Web_is_joined : Sp := fun vs H Q _ => ∃ (a : Addr) (n : Nat) (Ts : List Tie), vs = [.ref a] ∧ WebAt K H a n Ts ∧ GoodW n Ts ∧ ∀ H', Same H H' → Q (.bl (decide (JoinedW n Ts))) H'
def sp_tree_and_free : Sp := fun vs H Q _ => ∃ (a : Addr) (n : Nat) (Ts : List Tie), vs = [.ref a] ∧ WebAt K H a n Ts ∧ GoodW n Ts ∧
  ∀ H' q tr fr tree F ms, Same H H' → SqT K H' q [.ref tr, .ref fr] → SqL K H' tr (nL tree) → SqL K H' fr (nL F) → TF n (arcs Ts) Ts.length tree F ms → F.length ≤ 10 → Q (.ref q) H'
def sp_with_number : Sp := fun vs H Q _ => ∃ (l : Addr) (ws : List Int) (i : Nat) (s : Int), vs = [.ref l, nI i, .int s] ∧ SqL K H l (iL ws) ∧ i < ws.length ∧ ws.length ≤ 100 ∧ ∀ H' r, Same H H' → H r = none → H' r = some (.lst (iL (ws.set i s))) → Q (.ref r) H'
def sp_ways_home : Sp := fun vs H Q _ => ∃ (a tr : Addr) (n : Nat) (Ts : List Tie) (tree : List Nat), vs = [.ref a, .ref tr] ∧ WebAt K H a n Ts ∧ GoodW n Ts ∧ SqL K H tr (nL tree) ∧ (∀ j ∈ tree, j < Ts.length) ∧
  ∀ H' r xs, Same H H' → H' r = some (.lst xs) → WaysAt K H' xs (wPasses (arcs Ts) tree tree.length (ws0 n Ts.length)) → Q (.ref r) H'
def sp_base_flows : Sp := fun vs H Q _ => ∃ (a : Addr) (n : Nat) (Ts : List Tie), vs = [.ref a] ∧ WebAt K H a n Ts ∧ GoodW n Ts ∧ JoinedW n Ts ∧
  ∀ H' r xs fl, Same H H' → H' r = some (.lst xs) → ListsAt K H' xs fl → fl.length ≤ 10 → FlowsOf n (arcs Ts) fl → Q (.ref r) H'
def sp_flow_pairs : Sp := fun vs H Q _ => ∃ (a : Addr) (n : Nat) (Ts : List Tie), vs = [.ref a] ∧ WebAt K H a n Ts ∧ GoodW n Ts ∧ JoinedW n Ts ∧
  ∀ H' r xs fl, Same H H' → H' r = some (.lst xs) → xs.length = Ts.length → (∀ (i : Nat) (v : V), xs[i]? = some v → ∃ p q u, v = .ref p ∧ SqT K H' p [u, .ref q] ∧ SqT K H' q (iL (fl.map fun f => f.getD i 0))) → FlowsOf n (arcs Ts) fl → Q (.ref r) H'
def sp_bridges : Sp := fun vs H Q _ => ∃ (a : Addr) (n : Nat) (Ts : List Tie), vs = [.ref a] ∧ WebAt K H a n Ts ∧ GoodW n Ts ∧ JoinedW n Ts ∧ ∀ H' q, Same H H' → SqT K H' q (nL (idleL n (arcs Ts))) → Q (.ref q) H'
def sp_start_masks : Sp := fun vs H Q _ => ∃ (a : Addr) (n : Nat) (Ts : List Tie), vs = [.ref a] ∧ WebAt K H a n Ts ∧ n ≤ 6 ∧ ∀ H' r, Same H H' → H r = none → H' r = some (.lst (nL (startM n))) → Q (.ref r) H'
def sp_with_arc : Sp := fun vs H Q _ => ∃ (l : Addr) (ms : List Nat) (a b : Nat), vs = [.ref l, nI a, nI b] ∧ SqL K H l (nL ms) ∧ b < ms.length ∧ ms.length ≤ 100 ∧ ∀ H' r, Same H H' → H r = none → H' r = some (.lst (nL (withArc ms a b))) → Q (.ref r) H'
def sp_with_tie : Sp := fun vs H Q _ => ∃ (d l : Addr) (w : List Int) (ms : List Nat) (a b : Nat), vs = [.ref d, .ref l, nI a, nI b] ∧ SqT K H d (iL w) ∧ SqL K H l (nL ms) ∧ a < ms.length ∧ b < ms.length ∧ ms.length ≤ 100 ∧ w.length ≤ 100 ∧
  ∀ H' r xs, Same H H' → H r = none → H' r = some (.lst xs) → StepsX K (fun l => H l = none) H' xs (stepsOf ms w a b) → Q (.ref r) H'
def sp_order_list : Sp := fun vs H Q _ => ∃ (a : Addr) (n : Nat) (Ts : List Tie), vs = [.ref a] ∧ WebAt K H a n Ts ∧ GoodW n Ts ∧ ∀ H' r xs, Same H H' → H' r = some (.lst xs) → RowsAt K H' xs (ordL [] (arcs Ts)) → Q (.ref r) H'
def sp_orders : SpG := fun vs H Q _ => ∃ (a : Addr) (n : Nat) (Ts : List Tie), vs = [.ref a] ∧ WebAt K H a n Ts ∧ GoodW n Ts ∧ ∀ H' xs, Same H H' → RowsAt K H' xs (ordL [] (arcs Ts)) → Q xs H'
def sp_plain_pairs : Sp := fun vs H Q _ => ∃ (l : Addr) (xs : List V) (T : List Arc), vs = [.ref l] ∧ SqL K H l xs ∧ RowsAt K H xs (T.map arcR) ∧ In 6 T ∧ T.length ≤ 60 ∧
  ∀ H' r ys (D : List Arc), Same H H' → H r = none → H' r = some (.lst ys) → RowsAt K H' ys (D.map arcR) → D.Nodup → (∀ p, p ∈ D ↔ p ∈ T.map nrm) → Q (.ref r) H'
def sp_order_count : Sp := fun vs H Q _ => ∃ (a : Addr) (n : Nat) (Ts : List Tie), vs = [.ref a] ∧ WebAt K H a n Ts ∧ GoodW n Ts ∧ ∀ H', Same H H' → Q (nI (cnt [] (arcs Ts))) H'
open Classical in
def sp_has_walks : Sp := fun vs H Q _ => ∃ (a d : Addr) (n : Nat) (Ts : List Tie) (w : List Int), vs = [.ref a, .ref d] ∧ WebAt K H a n Ts ∧ GoodW n Ts ∧ SqT K H d (iL w) ∧ w.length = Ts.length ∧ (∀ s ∈ w, s = -1 ∨ s = 0 ∨ s = 1) ∧ ∀ H', Same H H' → Q (.bl (decide (Back (arcsOf (arcs Ts) w)))) H'
def sp_turn_list : Sp := fun vs H Q _ => ∃ (a : Addr) (n : Nat) (Ts : List Tie), vs = [.ref a] ∧ WebAt K H a n Ts ∧ GoodW n Ts ∧ JoinedW n Ts ∧ ∀ H' r xs, Same H H' → H' r = some (.lst xs) → RowsAt K H' xs (turnL (arcs Ts) (menusL n (arcs Ts))) → Q (.ref r) H'
/-- an error Loose with the lot of place 0 -/
def LooseX (H : Hp) (n : Nat) (Ts : List Tie) (E : XK) : Prop := ∀ H' dx q, Same H H' → H' dx = some (exd dx [("lot", .ref q)]) → SqT K H' q (nL (lotOf n (arcs Ts) 0)) → E (.ref (ga K "Loose")) (some dx) H'
def sp_turns : SpG := fun vs H Q E => ∃ (a : Addr) (n : Nat) (Ts : List Tie), vs = [.ref a] ∧ WebAt K H a n Ts ∧ GoodW n Ts ∧ (JoinedW n Ts → ∀ H' xs, Same H H' → RowsAt K H' xs (turnL (arcs Ts) (menusL n (arcs Ts))) → Q xs H') ∧ (¬ JoinedW n Ts → LooseX K H n Ts E)
def sp_turn_count : Sp := fun vs H Q E => ∃ (a : Addr) (n : Nat) (Ts : List Tie), vs = [.ref a] ∧ WebAt K H a n Ts ∧ GoodW n Ts ∧ (JoinedW n Ts → ∀ H', Same H H' → Q (nI (turnL (arcs Ts) (menusL n (arcs Ts))).length) H') ∧ (¬ JoinedW n Ts → LooseX K H n Ts E)
def sp__law_pool : Sp := fun vs H Q _ => ∃ (a : Addr) (ns : List Int), vs = [.ref a] ∧ SqL K H a (iL ns) ∧ ∀ H' p, Same H H' → H p = none → PoolAt H' p → Q (.ref p) H'
def sp__law_row_is : Sp := fun vs H Q _ => ∃ (a b : Addr) (ns : List Int), vs = [.ref a, .ref b] ∧ SqT K H a (iL ns) ∧ SqT K H b (iL ns) ∧ ns.length ≤ 1000 ∧ Q (.bl true) H
def sp__law_web : Sp := fun vs H Q _ => ∃ (p : Addr) (m : Nat), vs = [.ref p, nI m] ∧ PoolAt H p ∧ m ≤ 10 ∧ ∀ H' r l n xs Ts, PoolTo p H H' → H' r = some (.lst [nI n, .ref l]) → H' l = some (.lst xs) → RowsAt K H' xs (Ts.map tieR) → GoodW n Ts → Q (.ref r) H'
def sp__law_marks : Sp := fun vs H Q _ => ∃ (n : Nat) (l : Addr) (xs : List V) (Ts : List Tie), vs = [nI n, .ref l] ∧ SqL K H l xs ∧ RowsAt K H xs (Ts.map tieR) ∧ In n (arcs Ts) ∧ n ≤ 6 ∧ ∀ H' r ms, Same H H' → H r = none → H' r = some (.lst (nL ms)) → MK n (arcs Ts) ms → (0 < n → ms[0]? = some 0) → Q (.ref r) H'
def sp__law_lots_are : Sp := fun vs H Q _ => ∃ (a b : Addr) (xs ys : List V) (D : List (List Int)), vs = [.ref a, .ref b] ∧ SqL K H a xs ∧ SqL K H b ys ∧ RowsAt K H xs D ∧ RowsAt K H ys D ∧ D.length ≤ 100000 ∧ (∀ d ∈ D, d.length ≤ 1000) ∧ Q (.bl true) H
def sp__law_ways : Sp := fun vs H Q _ => ∃ (l : Addr) (xs : List V) (ms : List (List Int)), vs = [.ref l] ∧ SqL K H l xs ∧ RowsAt K H xs ms ∧ ms.length ≤ 10 ∧ (∀ m ∈ ms, m.length ≤ 2) ∧ ∀ H' r ys, Same H H' → H' r = some (.lst ys) → RowsAt K H' ys (waysOf ms) → Q (.ref r) H'
def sp__law_arcs : Sp := fun vs H Q _ => ∃ (l d : Addr) (xs : List V) (Ts : List Tie) (w : List Int), vs = [.ref l, .ref d] ∧ SqL K H l xs ∧ RowsAt K H xs (Ts.map tieR) ∧ SqT K H d (iL w) ∧ w.length = Ts.length ∧ Ts.length ≤ 10 ∧ ∀ H' r ys, Same H H' → H r = none → H' r = some (.lst ys) → RowsAt K H' ys ((arcsOf (arcs Ts) w).map arcR) → Q (.ref r) H'
def sp__law_vanish : Sp := fun vs H Q _ => ∃ (n : Nat) (l : Addr) (xs : List V) (A : List Arc), vs = [nI n, .ref l] ∧ SqL K H l xs ∧ RowsAt K H xs (A.map arcR) ∧ n ≤ 6 ∧ A.length ≤ 20 ∧ ∀ H', Same H H' → Q (.bl (decide (van n A = []))) H'
def sp__law_order_list : Sp := fun vs H Q _ => ∃ (n : Nat) (l : Addr) (xs : List V) (Ts : List Tie), vs = [nI n, .ref l] ∧ SqL K H l xs ∧ RowsAt K H xs (Ts.map tieR) ∧ In n (arcs Ts) ∧ n ≤ 6 ∧ Ts.length ≤ 10 ∧ ∀ H' r ys, Same H H' → H r = none → H' r = some (.lst ys) → RowsAt K H' ys (ordL [] (arcs Ts)) → Q (.ref r) H'
open Classical in
def sp__law_return : Sp := fun vs H Q _ => ∃ (n : Nat) (l : Addr) (xs : List V) (A : List Arc), vs = [nI n, .ref l] ∧ SqL K H l xs ∧ RowsAt K H xs (A.map arcR) ∧ In n A ∧ n ≤ 6 ∧ A.length ≤ 20 ∧ ∀ H', Same H H' → Q (.bl (decide (Back A))) H'
def sp__law_turn_list : Sp := fun vs H Q _ => ∃ (n : Nat) (l : Addr) (xs : List V) (Ts : List Tie), vs = [nI n, .ref l] ∧ SqL K H l xs ∧ RowsAt K H xs (Ts.map tieR) ∧ GoodW n Ts ∧ ∀ H' r ys, Same H H' → H' r = some (.lst ys) → RowsAt K H' ys (turnL (arcs Ts) (menusL n (arcs Ts))) → Q (.ref r) H'
def sp__law_orders_told : Sp := fun vs H Q _ => ∃ (a l : Addr) (n : Nat) (Ts : List Tie) (xs : List V), vs = [.ref a, .ref l] ∧ WebAt K H a n Ts ∧ GoodW n Ts ∧ SqL K H l xs ∧ RowsAt K H xs (ordL [] (arcs Ts)) ∧ ∀ H', Same H H' → Q (.bl true) H'
def sp__law_turns_told : Sp := fun vs H Q _ => ∃ (a l : Addr) (n : Nat) (Ts : List Tie) (xs : List V), vs = [.ref a, .ref l] ∧ WebAt K H a n Ts ∧ GoodW n Ts ∧ JoinedW n Ts ∧ SqL K H l xs ∧ RowsAt K H xs (turnL (arcs Ts) (menusL n (arcs Ts))) ∧ ∀ H', Same H H' → Q (.bl true) H'
def sp__law_try : Sp := fun vs H Q _ => ∃ (m : Nat) (a : Addr) (n : Nat) (Ts : List Tie), vs = [nI m, .ref a] ∧ WebAt K H a n Ts ∧ GoodW n Ts ∧ ¬ JoinedW n Ts ∧ ∀ H' q p, Same H H' → SqT K H' q [.str "loose", .ref p] → SqT K H' p (nL (lotOf n (arcs Ts) 0)) → Q (.ref q) H'
def sp__law_loose_told : Sp := fun vs H Q _ => ∃ (n : Nat) (l : Addr) (xs : List V) (Ts : List Tie), vs = [nI n, .ref l] ∧ SqL K H l xs ∧ RowsAt K H xs (Ts.map tieR) ∧ GoodW n Ts ∧ ¬ JoinedW n Ts ∧ ∀ H', Same H H' → Q (.bl true) H'
def sp__law_one_place : Sp := fun vs H Q _ => ∃ (n k : Nat) (l : Addr) (xs : List V) (Ts Ts' : List Tie) (t : Tie), vs = [nI n, .ref l, nI k] ∧ SqL K H l xs ∧ RowsAt K H xs ((Ts ++ t :: Ts').map tieR) ∧ Ts.length = k ∧ GoodW n (Ts ++ t :: Ts') ∧
  ∀ H' r ys, Same H H' → H r = none → H' r = some (.lst ys) → RowsAt K H' ys (((Ts ++ Ts').map fun u => ((newP (min t.1 t.2.1) (max t.1 t.2.1) u.1, newP (min t.1 t.2.1) (max t.1 t.2.1) u.2.1, u.2.2) : Tie)).map tieR) → Q (.ref r) H'
def sp__law_lesser_told : Sp := fun vs H Q _ => ∃ (p l : Addr) (n : Nat) (xs : List V) (Ts : List Tie), vs = [.ref p, nI n, .ref l, nI (ordL [] (arcs Ts)).length] ∧ PoolAt H p ∧ SqL K H l xs ∧ l ≠ p ∧ RowsAt K H xs (Ts.map tieR) ∧ GoodW n Ts ∧ Ts ≠ [] ∧ ∀ H', PoolTo p H H' → Q (.bl true) H'
def sp_law : Sp := fun vs H Q _ => ∃ (a : Addr) (ns : List Int), vs = [.ref a] ∧ SqL K H a (iL ns) ∧ ∀ H', Q (.bl true) H'
end
def sp__law_int (_ : PySem.W.Frag) : Sp := fun vs H Q _ => ∃ i : Int, vs = [.int i] ∧ Q (.bl true) H
end K3
/-! small things for the readings -/
namespace K3
open PySem PySem.Spec PyProof.Rows L2 He HX KG
/-! ### data compared -/
abbrev dI (l : List Int) : List PyData := l.map PyData.int
abbrev dR (D : List (List Int)) : List PyData := D.map fun r => .tuple (dI r)
theorem dpAll_int {K : PySem.W.Frag} {H : Hp} : ∀ l : List Int, DpAll K H (iL l) (dI l)
  | [] => .nil
  | i :: l => .cons (.int i) (dpAll_int l)
theorem dp_ints {K : PySem.W.Frag} {H : Hp} {a : Addr} {l : List Int} (h : SqL K H a (iL l)) : Dp K H (.ref a) (.list (dI l)) := .lst h (dpAll_int l)
theorem dpAll_rows {K : PySem.W.Frag} {H : Hp} : ∀ {D : List (List Int)} {xs : List V}, RowsAt K H xs D → DpAll K H xs (dR D)
  | [], [], _ => .nil
  | [], _ :: _, h => by cases h.1
  | _ :: _, [], h => by cases h.1
  | d :: D, v :: xs, h => by
    obtain ⟨t, rfl, ht⟩ := h.2 0 v d rfl rfl
    exact .cons (.tup ht (dpAll_int d)) (dpAll_rows ⟨by simpa using h.1, fun i v d a b => h.2 (i + 1) v d a b⟩)
theorem dp_rows {K : PySem.W.Frag} {H : Hp} {a : Addr} {xs : List V} {D : List (List Int)} (h : SqL K H a xs) (r : RowsAt K H xs D) : Dp K H (.ref a) (.list (dR D)) := .lst h (dpAll_rows r)
theorem can_ints : ∀ l : List Int, PyData.canLayAll0 (dI l) = true
  | [] => rfl
  | i :: l => by
    show (PyData.canLay0 (.int i) && PyData.canLayAll0 (dI l)) = true
    rw [can_ints l]
    rfl
theorem can_rows : ∀ D : List (List Int), PyData.canLayAll0 (dR D) = true
  | [] => rfl
  | d :: D => by
    show (PyData.canLay0 (.tuple (dI d)) && PyData.canLayAll0 (dR D)) = true
    rw [can_rows D, Bool.and_true]
    exact can_ints d
theorem depth_ints : ∀ l : List Int, PyData.depthAll (dI l) = 0
  | [] => rfl
  | i :: l => by
    show max (PyData.depth (.int i)) (PyData.depthAll (dI l)) = 0
    rw [depth_ints l]
    rfl
theorem depth_rows : ∀ D : List (List Int), PyData.depthAll (dR D) ≤ 1
  | [] => Nat.zero_le _
  | d :: D => by
    show max (PyData.depthAll (dI d) + 1) (PyData.depthAll (dR D)) ≤ 1
    rw [depth_ints d]
    have := depth_rows D
    omega
theorem sh_ints (l : List Int) : SeqAt.shaped (.list (dI l)) = true := by
  unfold SeqAt.shaped
  rw [show PyData.canLay0 (.list (dI l)) = true from can_ints l, Bool.true_and, decide_eq_true_eq]
  show PyData.depthAll (dI l) + 1 ≤ 64
  rw [depth_ints]
  decide
theorem sh_rows (D : List (List Int)) : SeqAt.shaped (.list (dR D)) = true := by
  unfold SeqAt.shaped
  rw [show PyData.canLay0 (.list (dR D)) = true from can_rows D, Bool.true_and, decide_eq_true_eq]
  show PyData.depthAll (dR D) + 1 ≤ 64
  have := depth_rows D
  omega
theorem eqv_ints : ∀ l m : List Int, PyData.eqvAll (dI l) (dI m) = decide (l = m)
  | [], [] => by simp [PyData.eqvAll]
  | [], _ :: _ => by simp [PyData.eqvAll]
  | _ :: _, [] => by simp [PyData.eqvAll]
  | i :: l, j :: m => by
    show (PyData.eqv (.int i) (.int j) && PyData.eqvAll (dI l) (dI m)) = _
    rw [eqv_ints l m, show PyData.eqv (.int i) (.int j) = (i == j) by simp [PyData.eqv]]
    by_cases h : i = j <;> by_cases h' : l = m <;> simp [h, h']
theorem eqv_rows0 (D : List (List Int)) : PyData.eqvAll (dR D) (dI []) = D.isEmpty := by
  cases D <;> simp [PyData.eqvAll]
theorem eqvL_ints (l m : List Int) : PyData.eqv (.list (dI l)) (.list (dI m)) = decide (l = m) := by
  rw [← eqv_ints]
  simp [PyData.eqv]
theorem eqvL_rows0 (D : List (List Int)) : PyData.eqv (.list (dR D)) (.list (dI [])) = D.isEmpty := by
  rw [← eqv_rows0]
  simp [PyData.eqv]
/-! ### lists of numbers -/
theorem nL_at {ms : List Nat} {a p : Nat} (h : ms[a]? = some p) : (nL ms)[a]? = some (nI p) := by
  rw [List.getElem?_map, h]
  rfl
theorem nL_atI {ms : List Nat} {a p : Nat} (h : ms[a]? = some p) : atI (nL ms) (a : Int) = some (nI p) := atI_nat (nL_at h)
theorem iL_atI {ms : List Int} {a : Nat} {p : Int} (h : ms[a]? = some p) : atI (iL ms) (a : Int) = some (.int p) := atI_nat (by rw [List.getElem?_map, h]; rfl)
theorem nL_get {ms : List Nat} {i : Nat} {v : V} (h : (nL ms)[i]? = some v) : ∃ p, ms[i]? = some p ∧ v = nI p := by
  rw [List.getElem?_map] at h
  obtain ⟨p, h1, h2⟩ := Option.map_eq_some_iff.mp h
  exact ⟨p, h1, h2.symm⟩
theorem iL_get {ms : List Int} {i : Nat} {v : V} (h : (iL ms)[i]? = some v) : ∃ p, ms[i]? = some p ∧ v = .int p := by
  rw [List.getElem?_map] at h
  obtain ⟨p, h1, h2⟩ := Option.map_eq_some_iff.mp h
  exact ⟨p, h1, h2.symm⟩
theorem take_snoc {α : Type} {l : List α} {i : Nat} {p : α} (h : l[i]? = some p) : l.take (i + 1) = l.take i ++ [p] := by
  rw [List.take_succ, h]
  rfl
theorem nat_eqb (a b : Nat) : decide (V.int (a : Int) = V.int (b : Int)) = decide (a = b) := by
  by_cases h : a = b
  · simp [h]
  · rw [decide_eq_false h]
    exact decide_eq_false fun z => h (by injection z with z; omega)
theorem nat_eqb' (a b : Nat) : decide ((a : Int) = (b : Int)) = decide (a = b) := by
  by_cases h : a = b
  · simp [h]
  · rw [decide_eq_false h]
    exact decide_eq_false fun z => h (by omega)
theorem int_eqb (a b : Int) : decide (V.int a = V.int b) = decide (a = b) := by simp
/-- a row of three in a row of names -/
theorem row3 {K : PySem.W.Frag} {H : Hp} {v : V} {t : Tie} (h : Row K H v (tieR t)) : ∃ q, v = .ref q ∧ SqT K H q [nI t.1, nI t.2.1, .int t.2.2] := h
theorem row2 {K : PySem.W.Frag} {H : Hp} {v : V} {t : Arc} (h : Row K H v (arcR t)) : ∃ q, v = .ref q ∧ SqT K H q [nI t.1, nI t.2] := h
theorem tie_get {K : PySem.W.Frag} {H : Hp} {xs : List V} {Ts : List Tie} {i : Nat} {v : V} (h : RowsAt K H xs (Ts.map tieR)) (e : xs[i]? = some v) : ∃ t q, Ts[i]? = some t ∧ v = .ref q ∧ SqT K H q [nI t.1, nI t.2.1, .int t.2.2] := by
  obtain ⟨d, hd, r⟩ := h.get e
  rw [List.getElem?_map] at hd
  obtain ⟨t, h1, rfl⟩ := Option.map_eq_some_iff.mp hd
  obtain ⟨q, e1, e2⟩ := row3 r
  exact ⟨t, q, h1, e1, e2⟩
theorem arc_get {K : PySem.W.Frag} {H : Hp} {xs : List V} {A : List Arc} {i : Nat} {v : V} (h : RowsAt K H xs (A.map arcR)) (e : xs[i]? = some v) : ∃ t q, A[i]? = some t ∧ v = .ref q ∧ SqT K H q [nI t.1, nI t.2] := by
  obtain ⟨d, hd, r⟩ := h.get e
  rw [List.getElem?_map] at hd
  obtain ⟨t, h1, rfl⟩ := Option.map_eq_some_iff.mp hd
  obtain ⟨q, e1, e2⟩ := row2 r
  exact ⟨t, q, h1, e1, e2⟩
theorem arcs_at {Ts : List Tie} {i : Nat} {t : Tie} (h : Ts[i]? = some t) : (arcs Ts)[i]? = some (t.1, t.2.1) := by
  rw [List.getElem?_map, h]
  rfl
theorem rows_len {K : PySem.W.Frag} {H : Hp} {xs : List V} {Ts : List Tie} (h : RowsAt K H xs (Ts.map tieR)) : xs.length = Ts.length := by
  rw [h.1, List.length_map]
theorem arows_len {K : PySem.W.Frag} {H : Hp} {xs : List V} {A : List Arc} (h : RowsAt K H xs (A.map arcR)) : xs.length = A.length := by
  rw [h.1, List.length_map]
theorem in_at {n : Nat} {Ts : List Tie} {i : Nat} {t : Tie} (h : KG.In n (arcs Ts)) (e : Ts[i]? = some t) : t.1 < n ∧ t.2.1 < n := h _ (List.mem_of_getElem? (arcs_at e))
theorem inV_nat {x : Nat} {l : List Nat} : inV (nI x) (nL l) = decide (x ∈ l) := by
  unfold inV
  rw [List.any_map]
  by_cases h : x ∈ l
  · rw [decide_eq_true h, List.any_eq_true]
    exact ⟨x, h, by simp [eqV]⟩
  · rw [decide_eq_false h, List.any_eq_false]
    intro y hy z
    have e : (y : Int) = (x : Int) := by simpa [eqV] using z
    have e' : y = x := by omega
    exact h (e' ▸ hy)
theorem flat_nL (l : List Nat) : (nL l).all flatV = true := by
  rw [List.all_map, List.all_eq_true]
  intro x _
  rfl
theorem same_same {H H1 : Hp} {l : Addr} {o : HO} (e : Same H H1) (hl : H1 l = none) : Same H (upd H1 l o) := e.trans (same_upd hl)
/-! ### slices -/
theorem cut_to (xs : List V) (i : Nat) : cutV xs none (some (i : Int)) = xs.take i := by
  unfold cutV
  rw [HT.sIx_none, HT.sIx_nat, Nat.sub_zero, List.drop_zero]
  by_cases h : i ≤ xs.length
  · rw [Nat.min_eq_left h]
  · rw [Nat.min_eq_right (by omega), List.take_of_length_le (by omega), List.take_of_length_le (by omega)]
theorem cut_from (xs : List V) (i : Nat) : cutV xs (some (i : Int)) none = xs.drop i := by
  unfold cutV
  rw [HT.sIx_none, HT.sIx_nat]
  by_cases h : i ≤ xs.length
  · rw [Nat.min_eq_left h, List.take_of_length_le (by rw [List.length_drop]; omega)]
  · rw [Nat.min_eq_right (by omega), Nat.sub_self, List.take_zero, List.drop_eq_nil_iff.mpr (by omega)]
theorem cut_last (xs : List V) : cutV xs none (some (-1)) = xs.dropLast := by
  unfold cutV
  rw [HT.sIx_none, List.drop_zero, Nat.sub_zero, List.dropLast_eq_take]
  congr 1
  unfold HT.sIx
  show (if (-1 : Int) < 0 then ((-1 : Int) + (xs.length : Int)).toNat else min (-1 : Int).toNat xs.length) = _
  rw [if_pos (by decide)]
  omega
/-! ### bits -/
theorem bit_or (a b : Nat) : Builtin.bitOr (a : Int) (b : Int) = ((a ||| b : Nat) : Int) := bitOr_nn (Int.natCast_nonneg a) (Int.natCast_nonneg b)
theorem bit_and (a b : Nat) : Builtin.bitAnd (a : Int) (b : Int) = ((a &&& b : Nat) : Int) := bitAnd_pp (Int.natCast_nonneg a) (Int.natCast_nonneg b)
theorem bit_at1 (m s : Nat) : Builtin.bitAnd ((m : Int) / 2 ^ s) 1 = ((m / 2 ^ s % 2 : Nat) : Int) := by
  have e : (m : Int) / 2 ^ s = ((m / 2 ^ s : Nat) : Int) := by simp
  rw [e, show (1 : Int) = ((1 : Nat) : Int) from rfl, bit_and, Nat.and_one_is_mod]
theorem bit_test (m s : Nat) : (Builtin.bitAnd ((m : Int) / 2 ^ s) 1 != 0) = m.testBit s := by
  rw [bit_at1, Nat.testBit_eq_decide_div_mod_eq]
  have := Nat.mod_two_eq_zero_or_one (m / 2 ^ s)
  rcases this with h | h <;> rw [h] <;> rfl
theorem pow2_cast (k : Nat) : (2 : Int) ^ k = ((2 ^ k : Nat) : Int) := by simp
/-! ### comprehensions that map, that filter -/
theorem lcs {α : Type} {H : Hp} {D : Addr} {ms : List α} {g : α → V} {i : Nat} {m : α} {y : V} (hm : ms[i]? = some m) (hz : ms.length ≤ 1000) (hy : y = g m) :
    ∃ acc, (upd H D (.lst ((ms.take i).map g))) D = some (.lst acc) ∧ acc.length < sizeLine ∧ upd (upd H D (.lst ((ms.take i).map g))) D (.lst (acc ++ [y])) = upd H D (.lst ((ms.take (i + 1)).map g)) :=
  ⟨_, upd_same, small_lt (by rw [List.length_map, List.length_take]; omega), by rw [upd_upd, take_snoc hm, List.map_append, hy]; rfl⟩
theorem lcf {α : Type} {H : Hp} {D : Addr} {ms : List α} {p : α → Bool} {g : α → V} {i : Nat} {m : α} {y : V} (hm : ms[i]? = some m) (hz : ms.length ≤ 1000) (hp : p m = true) (hy : y = g m) :
    ∃ acc, (upd H D (.lst (((ms.take i).filter p).map g))) D = some (.lst acc) ∧ acc.length < sizeLine ∧ upd (upd H D (.lst (((ms.take i).filter p).map g))) D (.lst (acc ++ [y])) = upd H D (.lst (((ms.take (i + 1)).filter p).map g)) :=
  ⟨_, upd_same, small_lt (by rw [List.length_map]; exact Nat.le_trans (List.length_filter_le _ _) (by rw [List.length_take]; omega)), by rw [upd_upd, take_snoc hm, List.filter_append, List.map_append, hy]; simp [hp]⟩
theorem lcf_no {α : Type} {H : Hp} {D : Addr} {ms : List α} {p : α → Bool} {g : α → V} {i : Nat} {m : α} (hm : ms[i]? = some m) (hp : p m = false) :
    upd H D (.lst (((ms.take i).filter p).map g)) = upd H D (.lst (((ms.take (i + 1)).filter p).map g)) := by
  rw [take_snoc hm, List.filter_append]
  simp [hp]
/-! ### tests -/
theorem and_rd {t u : TT} {σ : L2.St} {H : Hp} {Q : Bool → Hp → Prop} {a b : Bool} (ht : ∀ Q' : Bool → Hp → Prop, Q' a H → t σ H Q') (hu : ∀ Q' : Bool → Hp → Prop, Q' b H → u σ H Q') (q : Q (a && b) H) : tAnd t u σ H Q := by
  refine ht _ ?_
  cases a with
  | true => exact iteT (hu _ q)
  | false => exact iteF q
theorem or_rd {t u : TT} {σ : L2.St} {H : Hp} {Q : Bool → Hp → Prop} {a b : Bool} (ht : ∀ Q' : Bool → Hp → Prop, Q' a H → t σ H Q') (hu : ∀ Q' : Bool → Hp → Prop, Q' b H → u σ H Q') (q : Q (a || b) H) : tOr t u σ H Q := by
  refine ht _ ?_
  cases a with
  | true => exact iteT q
  | false => exact iteF (hu _ q)
theorem not_non {i : Int} : (!decide (V.int i = V.non)) = true := by
  rw [show decide (V.int i = V.non) = false from decide_eq_false fun z => nomatch z]
  rfl
theorem len_nL (l : List Nat) : (nL l).length = l.length := List.length_map ..
theorem len_iL (l : List Int) : (iL l).length = l.length := List.length_map ..
/-! ### sorted -/
theorem nL_int (l : List Nat) : nL l = (l.map fun (n : Nat) => (n : Int)).map V.int := by
  unfold nL
  rw [List.map_map]
  rfl
theorem sorted_nat {fd L : List Nat} {ns : List Int} (nd : fd.Nodup) (pm : ns.Perm (fd.map fun (n : Nat) => (n : Int))) (hr : ns.Pairwise (· ≤ ·)) (hL : L.Pairwise (· < ·)) (hm : ∀ x, x ∈ fd ↔ x ∈ L) : ns.map V.int = nL L := by
  have nn : ∀ i ∈ ns, 0 ≤ i := fun i m => by
    obtain ⟨k, _, rfl⟩ := List.mem_map.mp (pm.mem_iff.mp m)
    omega
  have e : ns = (ns.map Int.toNat).map fun (n : Nat) => (n : Int) := by
    rw [List.map_map]
    conv => lhs; rw [← List.map_id ns]
    exact List.map_congr_left fun i m => by
      show i = ((i.toNat : Nat) : Int)
      have := nn i m
      omega
  have ndc : (fd.map fun (n : Nat) => (n : Int)).Nodup := List.Pairwise.map _ (fun a b (h : a ≠ b) (z : (a : Int) = (b : Int)) => h (by omega)) nd
  have nds : ns.Nodup := pm.nodup_iff.mpr ndc
  have lt : (ns.map Int.toNat).Pairwise (· < ·) := by
    rw [List.pairwise_map]
    refine List.Pairwise.imp_of_mem (fun {a b} ma mb (q : a ≤ b ∧ a ≠ b) => ?_) (hr.and nds)
    have h1 := nn a ma
    have h2 := nn b mb
    have := q.1
    have := q.2
    omega
  have eq := rise_eq lt hL fun x => by
    rw [← hm x]
    constructor
    · intro m
      obtain ⟨i, mi, rfl⟩ := List.mem_map.mp m
      obtain ⟨k, mk, rfl⟩ := List.mem_map.mp (pm.mem_iff.mp mi)
      simpa using mk
    · intro m
      exact List.mem_map.mpr ⟨(x : Int), pm.mem_iff.mpr (List.mem_map.mpr ⟨x, m, rfl⟩), by simp⟩
  rw [e, eq, nL_int]
theorem rgV_nat (n : Nat) : rgV 0 (n : Int) = nL (List.range n) := by
  unfold rgV nL
  rw [show ((n : Int) - 0).toNat = n by omega]
  refine List.map_congr_left fun i _ => ?_
  show V.int _ = V.int _
  rw [Int.zero_add]
theorem TF.lens {n : Nat} {T : List Arc} {k : Nat} {tree F ms : List Nat} (h : TF n T k tree F ms) : ms.length = n := h.mks.1
theorem walk_enumT {K : PySem.W.Frag} {a : Addr} {xs : List V} : Walk (IteT K a) xs.length (fun H => SqT K H a xs) (YPair (fun i => some (.int (i : Nat))) (fun i => xs[i]?)) := by
  refine ⟨fun i _ hi q => ⟨xs, xs[i], q, by simp [hi]⟩, fun _ q => ⟨xs, q, rfl⟩, fun i H v H' _ q y => ?_⟩
  obtain ⟨T, x, h1, h2, h3, h4⟩ := y
  exact ⟨T, .int (i : Nat), x, h1, h2, h3, rfl, h4 xs q⟩
theorem sqt_keepX {K : PySem.W.Frag} {H H' : Hp} {a : Addr} {xs : List V} (e : ∀ b o, H b = some o → (∀ φ, o ≠ .ext φ) → H' b = some o) (h : SqT K H a xs) : SqT K H' a xs := by
  rcases h with (h | ⟨o, h⟩) | h
  · exact .inl (.inl (e _ _ h fun _ z => nomatch z))
  · exact .inl (.inr ⟨o, e _ _ h fun _ z => nomatch z⟩)
  · exact .inr h
theorem sqt_del {K : PySem.W.Frag} {H : Hp} {a e C : Addr} {d : Option Addr} {xs : List V} (he : H e = some (exo e C d)) (h : SqT K H a xs) : SqT K (del H e) a xs := by
  refine sqt_keepX (fun b o q n => ?_) h
  rw [del_ne (fun z => by rw [z, he] at q; exact n _ (Option.some.inj q).symm)]
  exact q
theorem lot_le {n : Nat} {T : List Arc} {p : Nat} : (lotOf n T p).length ≤ n := by
  unfold lotOf
  exact Nat.le_trans (List.length_filter_le _ _) (by rw [List.length_range]; exact Nat.le_refl _)
theorem nL_snoc (l : List Nat) (x : Nat) : nL (l ++ [x]) = nL l ++ [nI x] := by
  unfold nL
  rw [List.map_append]
  rfl
theorem iL_snoc (l : List Int) (x : Int) : iL (l ++ [x]) = iL l ++ [.int x] := by
  unfold iL
  rw [List.map_append]
  rfl
theorem sql_ins {K : PySem.W.Frag} {H : Hp} {l a : Addr} {xs : List V} {o o0 : HO} (ha : H a = some o0) (n1 : ∀ ys, o0 ≠ .lst ys) (n2 : ∀ u y, o0 ≠ .frz u y) (h : SqL K H l xs) : SqL K (upd H a o) l xs := by
  rcases h with (h | ⟨u, h⟩) | h
  · exact .inl (.inl (by rw [upd_ne (fun z => by rw [z, ha] at h; exact n1 _ (Option.some.inj h))]; exact h))
  · exact .inl (.inr ⟨u, by rw [upd_ne (fun z => by rw [z, ha] at h; exact n2 _ _ (Option.some.inj h))]; exact h⟩)
  · exact .inr h
theorem sqt_ins {K : PySem.W.Frag} {H : Hp} {l a : Addr} {xs : List V} {o o0 : HO} (ha : H a = some o0) (n1 : ∀ ys, o0 ≠ .tup ys) (n2 : ∀ u y, o0 ≠ .frz u y) (h : SqT K H l xs) : SqT K (upd H a o) l xs := by
  rcases h with (h | ⟨u, h⟩) | h
  · exact .inl (.inl (by rw [upd_ne (fun z => by rw [z, ha] at h; exact n1 _ (Option.some.inj h))]; exact h))
  · exact .inl (.inr ⟨u, by rw [upd_ne (fun z => by rw [z, ha] at h; exact n2 _ _ (Option.some.inj h))]; exact h⟩)
  · exact .inr h
/-! ### None and what is not None -/
section
variable {B C : Prop} {l : Addr}
theorem isn_t (h : B) : if decide (V.non = V.non) = true then B else C := by
  rw [if_pos (decide_eq_true rfl)]
  exact h
theorem isn_f (h : C) : if decide (V.ref l = V.non) = true then B else C := by
  rw [if_neg (fun z => nomatch of_decide_eq_true z)]
  exact h
theorem nn_t (h : B) : if (!decide (V.ref l = V.non)) = true then B else C := by
  rw [show decide (V.ref l = V.non) = false from decide_eq_false fun z => nomatch z]
  exact h
theorem nn_f (h : C) : if (!decide (V.non = V.non)) = true then B else C := by
  rw [show decide (V.non = V.non) = true from decide_eq_true rfl]
  exact h
end
theorem ixN_nat {n a : Nat} (h : a < n) : ixN n (a : Int) = some a := by
  unfold ixN
  rw [if_pos (by omega), if_pos (by omega)]
  simp
/-! ### the ways home, as the list at D holds them -/
def WaysX (D : Addr) (H : Hp) (ys : List V) (ws : List (Option (List Int))) : Prop := ys.length = ws.length ∧ ∀ (i : Nat) (v : V) (o : Option (List Int)), ys[i]? = some v → ws[i]? = some o → (o = none → v = .non) ∧ ∀ w, o = some w → ∃ l, v = .ref l ∧ H l = some (.lst (iL w)) ∧ l ≠ D
theorem WaysX.keep {D : Addr} {H H' : Hp} {ys : List V} {ws : List (Option (List Int))} (h : WaysX D H ys ws) (e : ∀ b o, b ≠ D → H b = some o → H' b = some o) : WaysX D H' ys ws := ⟨h.1, fun i v o a b => ⟨(h.2 i v o a b).1, fun w ew => by
  obtain ⟨l, e1, e2, e3⟩ := (h.2 i v o a b).2 w ew
  exact ⟨l, e1, e _ _ e3 e2, e3⟩⟩⟩
theorem WaysX.set {D l : Addr} {H : Hp} {ys : List V} {ws : List (Option (List Int))} {j : Nat} {w : List Int} (h : WaysX D H ys ws) (hl : H l = some (.lst (iL w))) (ne : l ≠ D) : WaysX D H (ys.set j (.ref l)) (ws.set j (some w)) := by
  refine ⟨by rw [List.length_set, List.length_set]; exact h.1, fun i v o a b => ?_⟩
  by_cases c : j = i
  · subst c
    have lj : j < ws.length := by
      have := (List.getElem?_eq_some_iff.mp b).1
      rwa [List.length_set] at this
    rw [List.getElem?_set_self (by rw [h.1]; exact lj)] at a
    rw [List.getElem?_set_self lj] at b
    cases a
    cases b
    exact ⟨fun z => (nomatch z), fun w' e => by cases e; exact ⟨l, rfl, hl, ne⟩⟩
  · rw [List.getElem?_set_ne c] at a b
    exact h.2 i v o a b
theorem WaysX.ways {K : PySem.W.Frag} {D : Addr} {H : Hp} {ys : List V} {ws : List (Option (List Int))} (h : WaysX D H ys ws) : WaysAt K H ys ws := ⟨h.1, fun i v o a b => ⟨(h.2 i v o a b).1, fun w e => by
  obtain ⟨l, e1, e2, _⟩ := (h.2 i v o a b).2 w e
  exact ⟨l, e1, .inl (.inl e2)⟩⟩⟩
theorem WaysX.get {D : Addr} {H : Hp} {ys : List V} {ws : List (Option (List Int))} {i : Nat} {o : Option (List Int)} (h : WaysX D H ys ws) (e : ws[i]? = some o) : ∃ v, ys[i]? = some v ∧ (o = none → v = .non) ∧ ∀ w, o = some w → ∃ l, v = .ref l ∧ H l = some (.lst (iL w)) ∧ l ≠ D := by
  have hi : i < ys.length := by
    rw [h.1]
    exact (List.getElem?_eq_some_iff.mp e).1
  exact ⟨ys[i], List.getElem?_eq_getElem hi, h.2 i _ o (List.getElem?_eq_getElem hi) e⟩
/-- sizes -/
def WL (n m : Nat) (ws : List (Option (List Int))) : Prop := ws.length = n ∧ ∀ v w, At ws v w → w.length = m
theorem WL.set {n m : Nat} {ws : List (Option (List Int))} {j : Nat} {w : List Int} (h : WL n m ws) (hw : w.length = m) : WL n m (ws.set j (some w)) := by
  refine ⟨by rw [List.length_set]; exact h.1, fun v u e => ?_⟩
  unfold At at e
  by_cases c : j = v
  · subst c
    have lj := (List.getElem?_eq_some_iff.mp e).1
    rw [List.length_set] at lj
    rw [List.getElem?_set_self lj] at e
    cases e
    exact hw
  · rw [List.getElem?_set_ne c] at e
    exact h.2 v u e
theorem WL.start {n m : Nat} : WL n m (ws0 n m) := by
  refine ⟨by simp [ws0], fun v w e => ?_⟩
  rw [(ws0_at e).2, List.length_replicate]
theorem wPasses_succ (T : List Arc) (L : List Nat) : ∀ (k : Nat) (ws : List (Option (List Int))), wPasses T L (k + 1) ws = wPass T L (wPasses T L k ws)
  | 0, _ => rfl
  | k + 1, ws => by
    show wPasses T L (k + 1) (wPass T L ws) = _
    rw [wPasses_succ T L k]
    rfl
theorem wPass_take {T : List Arc} {L : List Nat} {j i : Nat} {ws : List (Option (List Int))} (e : L[j]? = some i) : wPass T (L.take (j + 1)) ws = wStep T (wPass T (L.take j) ws) i := by
  unfold wPass
  rw [take_snoc e, List.foldl_append]
  rfl
theorem wStep_of {T : List Arc} {ws : List (Option (List Int))} {i a b : Nat} (e : T[i]? = some (a, b)) : wStep T ws i = wIn ws i a b ws[a]? ws[b]? := by
  unfold wStep
  rw [e]
/-- in a joined web all ways are told -/
theorem ways_all {n : Nat} {Ts : List Tie} {tree F ms : List Nat} (gw : GoodW n Ts) (jn : JoinedW n Ts) (tF : TF n (arcs Ts) Ts.length tree F ms) :
    ∃ U, WI n (arcs Ts) tree U (wPasses (arcs Ts) tree tree.length (ws0 n Ts.length)) ∧ AllW n (wPasses (arcs Ts) tree tree.length (ws0 n Ts.length)) := by
  have h0 : 0 < n := gw.n1
  have l : (arcs Ts).length = Ts.length := by simp
  have tF' : TF n (arcs Ts) (arcs Ts).length tree F ms := by
    rw [l]
    exact tF
  have hc : ∀ v, v < n → Con (ties (arcs Ts) tree) 0 v := fun v hv => tF'.span (lotOf_all.mp jn v hv)
  have W0 : WI n (arcs Ts) tree [] (ws0 n Ts.length) := by
    rw [← l]
    exact WI.start h0
  obtain ⟨U, W, q⟩ := WI.passes gw.ok.inn h0 hc (k := tree.length) W0 (.inr (by simp))
  exact ⟨U, W, W.all gw.ok.inn h0 hc q⟩
/-- the flows of the free ties tell the idle ones -/
theorem flows_of {n : Nat} {Ts : List Tie} {tree F ms : List Nat} {ws : List (Option (List Int))} {U : List Nat} {fl : List (List Int)} (gw : GoodW n Ts) (tF : TF n (arcs Ts) Ts.length tree F ms) (W : WI n (arcs Ts) tree U ws) (aw : AllW n ws) (hl : fl.length = F.length)
    (hf : ∀ (k f : Nat), F[k]? = some f → ∀ a b wa wb, (arcs Ts)[f]? = some (a, b) → At ws a wa → At ws b wb → fl[k]? = some (flowL f wa wb)) : FlowsOf n (arcs Ts) fl := by
  have l : (arcs Ts).length = Ts.length := by simp
  have h0 : 0 < n := gw.n1
  have each : ∀ (k f : Nat), F[k]? = some f → ∃ a b wa wb, (arcs Ts)[f]? = some (a, b) ∧ At ws a wa ∧ At ws b wb ∧ fl[k]? = some (flowL f wa wb) := fun k f e => by
    have lt := (tF.ltF f (List.mem_of_getElem? e)).1
    have e1 : (arcs Ts)[f]? = some (arcs Ts)[f] := List.getElem?_eq_getElem (by rw [l]; exact lt)
    have ab := gw.ok.inn _ (List.mem_of_getElem? e1)
    obtain ⟨wa, h1⟩ := aw _ ab.1
    obtain ⟨wb, h2⟩ := aw _ ab.2
    exact ⟨_, _, wa, wb, e1, h1, h2, hf k f e _ _ wa wb e1 h1 h2⟩
  have back : ∀ x ∈ fl, ∃ k f, F[k]? = some f ∧ fl[k]? = some x := fun x m => by
    obtain ⟨k, hk, e⟩ := List.mem_iff_getElem.mp m
    exact ⟨k, F[k]'(by omega), List.getElem?_eq_getElem (by omega), by rw [List.getElem?_eq_getElem hk, e]⟩
  refine ⟨fun x m => ?_, fun i hi => ?_⟩
  · obtain ⟨k, f, e1, e2⟩ := back x m
    obtain ⟨a, b, wa, wb, _, h1, h2, e3⟩ := each k f e1
    rw [e2] at e3
    cases e3
    unfold flowL subL
    rw [List.length_set, List.length_zipWith, W.wl _ _ h1, W.wl _ _ h2, Nat.min_self]
  · rw [← bridge gw.ok.inn h0 W aw tF.fo (F := F) (fun i hi => tF.all i (by rw [← l]; exact hi)) (fun f m => ⟨(tF.ltF f m).2, by rw [l]; exact (tF.ltF f m).1⟩) hi]
    constructor
    · intro h f m a b wa wb e h1 h2
      obtain ⟨k, hk, ek⟩ := List.mem_iff_getElem.mp m
      exact h _ (List.mem_of_getElem? (hf k f (by rw [List.getElem?_eq_getElem hk, ek]) a b wa wb e h1 h2))
    · intro h x m
      obtain ⟨k, f, e1, e2⟩ := back x m
      obtain ⟨a, b, wa, wb, e4, h1, h2, e3⟩ := each k f e1
      rw [e2] at e3
      cases e3
      exact h f (List.mem_of_getElem? e1) a b wa wb e4 h1 h2
/-! ### lists of lists, in the list at D -/
def ListsX (D : Addr) (H : Hp) (ys : List V) (fs : List (List Int)) : Prop := ys.length = fs.length ∧ ∀ (i : Nat) (v : V) (d : List Int), ys[i]? = some v → fs[i]? = some d → ∃ l, v = .ref l ∧ H l = some (.lst (iL d)) ∧ l ≠ D
theorem ListsX.keep {D : Addr} {H H' : Hp} {ys : List V} {fs : List (List Int)} (h : ListsX D H ys fs) (e : ∀ b o, b ≠ D → H b = some o → H' b = some o) : ListsX D H' ys fs := ⟨h.1, fun i v d a b => by
  obtain ⟨l, e1, e2, e3⟩ := h.2 i v d a b
  exact ⟨l, e1, e _ _ e3 e2, e3⟩⟩
theorem ListsX.nil {D : Addr} {H : Hp} : ListsX D H [] [] := ⟨rfl, fun i v d a => by simp at a⟩
theorem ListsX.snoc {D l : Addr} {H : Hp} {ys : List V} {fs : List (List Int)} {d : List Int} (h : ListsX D H ys fs) (hl : H l = some (.lst (iL d))) (ne : l ≠ D) : ListsX D H (ys ++ [.ref l]) (fs ++ [d]) := by
  refine ⟨by simp [h.1], fun i v e a b => ?_⟩
  by_cases c : i < ys.length
  · rw [List.getElem?_append_left c] at a
    rw [List.getElem?_append_left (by rw [← h.1]; exact c)] at b
    exact h.2 i v e a b
  · rw [List.getElem?_append_right (by omega)] at a
    rw [List.getElem?_append_right (by rw [← h.1]; omega), ← h.1] at b
    cases q : i - ys.length with
    | zero =>
      rw [q] at a b
      cases a
      cases b
      exact ⟨l, rfl, hl, ne⟩
    | succ j =>
      rw [q] at a
      simp at a
theorem ListsX.lists {K : PySem.W.Frag} {D : Addr} {H : Hp} {ys : List V} {fs : List (List Int)} (h : ListsX D H ys fs) : ListsAt K H ys fs := ⟨h.1, fun i v d a b => by
  obtain ⟨l, e1, e2, _⟩ := h.2 i v d a b
  exact ⟨l, e1, .inl (.inl e2)⟩⟩
theorem iL_take_snoc {l : List Int} {i : Nat} {x : Int} (h : l[i]? = some x) : iL (l.take (i + 1)) = iL (l.take i) ++ [.int x] := by
  rw [take_snoc h, iL_snoc]
theorem subL_at {x y : List Int} {i : Nat} {a b : Int} (h : x[i]? = some a) (k : y[i]? = some b) : (subL x y)[i]? = some (a - b) := by
  unfold subL
  rw [List.getElem?_zipWith, h, k]
theorem any_ne0 {l : List Int} : (!(l.any (· != 0))) = true ↔ ∀ x ∈ l, x = 0 := by
  rw [Bool.not_eq_true', List.any_eq_false]
  constructor
  · intro h x m
    have := h x m
    simpa using this
  · intro h x m
    simp [h x m]
/-! ### comprehensions with two clauses, set comprehensions: over walks -/
section
variable {J J1 : It} {n : Nat} {G : Hp → Prop} {Y : Nat → Hp → V → Hp → Prop}
theorem lc2_it (wk : Walk J n G Y) {g : TG} {tt : TT} {inn : L2.St → Hp → (Hp → Prop) → Prop} {vs : List Nat} {σ : L2.St} {H1 : Hp} {D : Addr} {Qd : Hp → Prop} (Pv : Nat → Hp → Prop) (h0 : Pv 0 (upd H1 D (.lst []))) (hG : ∀ i H, i ≤ n → Pv i H → G H)
    (hs : ∀ i x H H', i < n → Pv i H → Y i H x H' → g x (wipe σ vs) H' fun σ2 H2 => wipe σ2 vs = wipe σ vs ∧ tt σ2 H2 fun b H3 => if b = true then inn σ2 H3 (Pv (i + 1)) else Pv (i + 1) H3) (hd : ∀ H, Pv n H → Qd H) :
    ∃ W : Nat → Nat → Hp → Prop, (∃ m, W 0 m (upd H1 D (.lst []))) ∧ ∀ i m H, W i m H →
      (J.stop i H ∧ Qd H) ∨ (J.go i H ∧ ∃ Nx : Hp → Prop, (∀ H', Nx H' → ∃ m', m' < m ∧ W (i + 1) m' H') ∧ ∀ x H', J.yld i H x H' → g x (wipe σ vs) H' fun σ2 H2 => wipe σ2 vs = wipe σ vs ∧ tt σ2 H2 fun b H3 => if b = true then inn σ2 H3 Nx else Nx H3) := by
  refine ⟨fun i m H => m = n - i ∧ i ≤ n ∧ Pv i H, ⟨n, by simp, Nat.zero_le _, h0⟩, ?_⟩
  rintro i m H ⟨rfl, hi, p⟩
  have q := hG i H hi p
  by_cases hlt : i < n
  · exact .inr ⟨wk.goes i H hlt q, Pv (i + 1), fun H' p' => ⟨n - (i + 1), by omega, rfl, hlt, p'⟩, fun x H' y => hs i x H H' hlt p (wk.yields i H x H' hlt q y)⟩
  · have e : i = n := by omega
    subst e
    exact .inl ⟨wk.stops H q, hd H p⟩
theorem lcin_it (wk : Walk J n G Y) {g : TG} {tt : TT} {te : TE} {vs : List Nat} {σ : L2.St} {H1 : Hp} {D : Addr} {Qd : Hp → Prop} (Pv : Nat → Hp → Prop) (h0 : Pv 0 H1) (hG : ∀ i H, i ≤ n → Pv i H → G H)
    (hs : ∀ i x H H', i < n → Pv i H → Y i H x H' → g x (wipe σ vs) H' fun σ2 H2 => wipe σ2 vs = wipe σ vs ∧ tt σ2 H2 fun b H3 =>
      if b = true then te σ2 H3 fun y H4 => ∃ acc, H4 D = some (.lst acc) ∧ acc.length < sizeLine ∧ Pv (i + 1) (upd H4 D (.lst (acc ++ [y]))) else Pv (i + 1) H3) (hd : ∀ H, Pv n H → Qd H) :
    ∃ W : Nat → Nat → Hp → Prop, (∃ m, W 0 m H1) ∧ ∀ i m H, W i m H →
      (J.stop i H ∧ Qd H) ∨ (J.go i H ∧ ∃ Nx : Hp → Prop, (∀ H', Nx H' → ∃ m', m' < m ∧ W (i + 1) m' H') ∧ ∀ x H', J.yld i H x H' → g x (wipe σ vs) H' fun σ2 H2 => wipe σ2 vs = wipe σ vs ∧ tt σ2 H2 fun b H3 =>
        if b = true then te σ2 H3 fun y H4 => ∃ acc, H4 D = some (.lst acc) ∧ acc.length < sizeLine ∧ Nx (upd H4 D (.lst (acc ++ [y]))) else Nx H3) := by
  refine ⟨fun i m H => m = n - i ∧ i ≤ n ∧ Pv i H, ⟨n, by simp, Nat.zero_le _, h0⟩, ?_⟩
  rintro i m H ⟨rfl, hi, p⟩
  have q := hG i H hi p
  by_cases hlt : i < n
  · exact .inr ⟨wk.goes i H hlt q, Pv (i + 1), fun H' p' => ⟨n - (i + 1), by omega, rfl, hlt, p'⟩, fun x H' y => hs i x H H' hlt p (wk.yields i H x H' hlt q y)⟩
  · have e : i = n := by omega
    subst e
    exact .inl ⟨wk.stops H q, hd H p⟩
theorem sc_it {P : Program} {w : World} {K : PySem.W.Frag} (wk : Walk J n G Y) {g : TG} {tt : TT} {te : TE} {vs : List Nat} {σ : L2.St} {H1 : Hp} {A : Addr} {Qd : Hp → Prop} (Pv : Nat → Hp → Prop) (h0 : Pv 0 (upd H1 A (SetTO P w A []))) (hG : ∀ i H, i ≤ n → Pv i H → G H)
    (hs : ∀ i x H H', i < n → Pv i H → Y i H x H' → g x (wipe σ vs) H' fun σ2 H2 => wipe σ2 vs = wipe σ vs ∧ tt σ2 H2 fun b H3 =>
      if b = true then te σ2 H3 fun y H4 => ∃ (x : Addr) (k : List Int) (L : List (Addr × List Int)), y = .ref x ∧ H4 A = some (SetTO P w A L) ∧ (∀ p ∈ L, SqT K H4 p.1 (p.2.map V.int)) ∧ SqT K H4 x (k.map V.int) ∧ L.length + 1 < 64 ∧
        ∀ L', (k ∈ L.map (·.2) → L' = L) → (k ∉ L.map (·.2) → L'.Perm ((x, k) :: L)) → Pv (i + 1) (upd H4 A (SetTO P w A L')) else Pv (i + 1) H3) (hd : ∀ H, Pv n H → Qd H) :
    ∃ W : Nat → Nat → Hp → Prop, (∃ m, W 0 m (upd H1 A (SetTO P w A []))) ∧ ∀ i m H, W i m H →
      (J.stop i H ∧ Qd H) ∨ (J.go i H ∧ ∃ Nx : Hp → Prop, (∀ H', Nx H' → ∃ m', m' < m ∧ W (i + 1) m' H') ∧ ∀ x H', J.yld i H x H' → g x (wipe σ vs) H' fun σ2 H2 => wipe σ2 vs = wipe σ vs ∧ tt σ2 H2 fun b H3 =>
        if b = true then te σ2 H3 fun y H4 => ∃ (x : Addr) (k : List Int) (L : List (Addr × List Int)), y = .ref x ∧ H4 A = some (SetTO P w A L) ∧ (∀ p ∈ L, SqT K H4 p.1 (p.2.map V.int)) ∧ SqT K H4 x (k.map V.int) ∧ L.length + 1 < 64 ∧
          ∀ L', (k ∈ L.map (·.2) → L' = L) → (k ∉ L.map (·.2) → L'.Perm ((x, k) :: L)) → Nx (upd H4 A (SetTO P w A L')) else Nx H3) := by
  refine ⟨fun i m H => m = n - i ∧ i ≤ n ∧ Pv i H, ⟨n, by simp, Nat.zero_le _, h0⟩, ?_⟩
  rintro i m H ⟨rfl, hi, p⟩
  have q := hG i H hi p
  by_cases hlt : i < n
  · exact .inr ⟨wk.goes i H hlt q, Pv (i + 1), fun H' p' => ⟨n - (i + 1), by omega, rfl, hlt, p'⟩, fun x H' y => hs i x H H' hlt p (wk.yields i H x H' hlt q y)⟩
  · have e : i = n := by omega
    subst e
    exact .inl ⟨wk.stops H q, hd H p⟩
end
/-! ### steps, in the list at D -/
theorem sqt_but {K : PySem.W.Frag} {D t : Addr} {H H' : Hp} {zs xs : List V} (kp : ∀ b o, b ≠ D → H b = some o → H' b = some o) (hD : H D = some (.lst zs)) (h : SqT K H t xs) : SqT K H' t xs :=
  sqt_keep (fun b o q n => kp b o (fun z => by rw [z, hD] at q; exact n zs (Option.some.inj q).symm) q) h
theorem StepX.keep {K : PySem.W.Frag} {P : Addr → Prop} {D : Addr} {H H' : Hp} {zs : List V} {v : V} {d : List Int × List Nat} (h : StepX K P H v d) (hP : ∀ l, P l → l ≠ D) (kp : ∀ b o, b ≠ D → H b = some o → H' b = some o) (hD : H D = some (.lst zs)) : StepX K P H' v d := by
  obtain ⟨p, q, l, e, h1, h2, h3, h4⟩ := h
  exact ⟨p, q, l, e, sqt_but kp hD h1, sqt_but kp hD h2, kp _ _ (hP l h4) h3, h4⟩
theorem StepsX.keep {K : PySem.W.Frag} {P : Addr → Prop} {D : Addr} {H H' : Hp} {zs xs : List V} {E : List (List Int × List Nat)} (h : StepsX K P H xs E) (hP : ∀ l, P l → l ≠ D) (kp : ∀ b o, b ≠ D → H b = some o → H' b = some o) (hD : H D = some (.lst zs)) : StepsX K P H' xs E := ⟨h.1, fun i v d a b => (h.2 i v d a b).keep hP kp hD⟩
theorem StepX.same {K : PySem.W.Frag} {P : Addr → Prop} {H H' : Hp} {v : V} {d : List Int × List Nat} (h : StepX K P H v d) (S : Same H H') : StepX K P H' v d := by
  obtain ⟨p, q, l, e, h1, h2, h3, h4⟩ := h
  exact ⟨p, q, l, e, S.tup h1, S.tup h2, S _ _ h3, h4⟩
theorem StepsX.same {K : PySem.W.Frag} {P : Addr → Prop} {H H' : Hp} {xs : List V} {E : List (List Int × List Nat)} (h : StepsX K P H xs E) (S : Same H H') : StepsX K P H' xs E := ⟨h.1, fun i v d a b => (h.2 i v d a b).same S⟩
theorem StepX.imp {K : PySem.W.Frag} {P P' : Addr → Prop} {H : Hp} {v : V} {d : List Int × List Nat} (h : StepX K P H v d) (hP : ∀ l, P l → P' l) : StepX K P' H v d := by
  obtain ⟨p, q, l, e, h1, h2, h3, h4⟩ := h
  exact ⟨p, q, l, e, h1, h2, h3, hP l h4⟩
theorem StepsX.imp {K : PySem.W.Frag} {P P' : Addr → Prop} {H : Hp} {xs : List V} {E : List (List Int × List Nat)} (h : StepsX K P H xs E) (hP : ∀ l, P l → P' l) : StepsX K P' H xs E := ⟨h.1, fun i v d a b => (h.2 i v d a b).imp hP⟩
theorem StepsX.nil {K : PySem.W.Frag} {P : Addr → Prop} {H : Hp} : StepsX K P H [] [] := ⟨rfl, fun i v d a => by simp at a⟩
theorem StepsX.snoc {K : PySem.W.Frag} {P : Addr → Prop} {H : Hp} {xs : List V} {E : List (List Int × List Nat)} {v : V} {d : List Int × List Nat} (h : StepsX K P H xs E) (r : StepX K P H v d) : StepsX K P H (xs ++ [v]) (E ++ [d]) := by
  refine ⟨by simp [h.1], fun i w e a b => ?_⟩
  by_cases c : i < xs.length
  · rw [List.getElem?_append_left c] at a
    rw [List.getElem?_append_left (by rw [← h.1]; exact c)] at b
    exact h.2 i w e a b
  · rw [List.getElem?_append_right (by omega)] at a
    rw [List.getElem?_append_right (by rw [← h.1]; omega), ← h.1] at b
    cases q : i - xs.length with
    | zero =>
      rw [q] at a b
      cases a
      cases b
      exact r
    | succ j =>
      rw [q] at a
      simp at a
theorem StepsX.get {K : PySem.W.Frag} {P : Addr → Prop} {H : Hp} {xs : List V} {E : List (List Int × List Nat)} {i : Nat} {v : V} (h : StepsX K P H xs E) (e : xs[i]? = some v) : ∃ d, E[i]? = some d ∧ StepX K P H v d := by
  have hi : i < E.length := by
    rw [← h.1]
    exact (List.getElem?_eq_some_iff.mp e).1
  exact ⟨E[i], List.getElem?_eq_getElem hi, h.2 i v _ e (List.getElem?_eq_getElem hi)⟩
/-- t + u by a row of numbers that is not empty -/
theorem rd_cat1 {K : PySem.W.Frag} {Q : VK} {H : Hp} {d p : Addr} {w : List Int} {x : Int} (hd : SqT K H d (iL w)) (hp : SqT K H p [.int x]) (hw : w.length ≤ 100) (k : ∀ H' u, Same H H' → SqT K H' u (iL (w ++ [x])) → Q (.ref u) H') : rCatA K (.ref d) (.ref p) H Q := by
  refine ⟨d, p, _, _, rfl, rfl, hd, hp, small_size (by rw [len_iL]; simp; omega), fun e => ?_, fun _ e => (nomatch e), fun _ _ u hu => k _ u (same_upd hu) (.inl (.inl ?_))⟩
  · have ew : w = [] := by simpa using e
    subst ew
    exact k H p (Same.refl H) hp
  · rw [upd_same, iL_snoc]
/-! ### the orders grown -/
theorem mid_lt {n : Nat} (h : n ≤ 100000) : n < sizeLine := by
  rw [sizeLine_eq]
  omega
theorem waysOf_le : ∀ {ms : List (List Int)}, (∀ m ∈ ms, m.length ≤ 2) → (waysOf ms).length ≤ 2 ^ ms.length
  | [], _ => Nat.le_refl _
  | m :: ms, h => by
    have ih := waysOf_le fun x hx => h x (List.mem_cons_of_mem _ hx)
    have hm := h m List.mem_cons_self
    show (m.flatMap fun s => (waysOf ms).map (s :: ·)).length ≤ 2 ^ (ms.length + 1)
    have e : (m.flatMap fun s => (waysOf ms).map (s :: ·)).length = m.length * (waysOf ms).length := by
      clear hm h
      induction m with
      | nil => simp
      | cons a m ih2 =>
        rw [List.flatMap_cons, List.length_append, ih2, List.length_map, List.length_cons, Nat.succ_mul, Nat.add_comm]
    rw [e, Nat.pow_succ, Nat.mul_comm]
    exact Nat.mul_le_mul ih hm
theorem ordL_le {T : List Arc} (h : T.length ≤ 10) : (ordL [] T).length ≤ 1024 := by
  rw [ordL_filter]
  refine Nat.le_trans (List.length_filter_le _ _) (Nat.le_trans (waysOf_le fun m hm => ?_) ?_)
  · obtain ⟨_, _, rfl⟩ := List.mem_map.mp hm
    exact Nat.le_refl _
  · rw [List.length_map]
    exact Nat.le_trans (Nat.pow_le_pow_right (by decide) h) (by decide)
theorem turnL_le {T : List Arc} {ms : List (List Int)} (h : ms.length ≤ 10) (h2 : ∀ m ∈ ms, m.length ≤ 2) : (turnL T ms).length ≤ 1024 := by
  refine Nat.le_trans (List.length_filter_le _ _) (Nat.le_trans (waysOf_le h2) ?_)
  exact Nat.le_trans (Nat.pow_le_pow_right (by decide) h) (by decide)
def growS (G : List (List Int × List Nat)) (a b : Nat) : List (List Int × List Nat) := G.flatMap fun d => stepsOf d.2 d.1 a b
theorem steps_fst {n : Nat} {A : List Arc} {T : List Arc} {ms : List Nat} {w : List Int} {a b : Nat} (h : Msk n (arcsOf T w) ms) (ha : a < n) (hb : b < n) : (stepsOf ms w a b).map Prod.fst = onW [] T a b w := by
  have ga : ms[a]? = some (ms.getD a 0) := by rw [List.getD_eq_getElem?_getD, List.getElem?_eq_getElem (by rw [h.1]; exact ha)]; rfl
  have gb : ms[b]? = some (ms.getD b 0) := by rw [List.getD_eq_getElem?_getD, List.getElem?_eq_getElem (by rw [h.1]; exact hb)]; rfl
  have k1 := h.2 a _ ga b
  have k2 := h.2 b _ gb a
  unfold stepsOf onW
  rw [List.nil_append, List.map_append]
  congr 1
  · by_cases c : (ms.getD a 0).testBit b = true
    · rw [if_pos c, if_pos (k1.mp c)]
      rfl
    · rw [if_neg c, if_neg fun z => c (k1.mpr z)]
      rfl
  · by_cases c : (ms.getD b 0).testBit a = true
    · rw [if_pos c, if_pos (k2.mp c)]
      rfl
    · rw [if_neg c, if_neg fun z => c (k2.mpr z)]
      rfl
theorem steps_ord {n : Nat} {T : List Arc} {i a b : Nat} {G : List (List Int × List Nat)} (e : T[i]? = some (a, b)) (ha : a < n) (hb : b < n) (h1 : G.map Prod.fst = ordL [] (T.take i)) (h2 : ∀ d ∈ G, Msk n (arcsOf (T.take i) d.1) d.2 ∧ d.1.length = i) :
    (growS G a b).map Prod.fst = ordL [] (T.take (i + 1)) ∧ ∀ d ∈ growS G a b, Msk n (arcsOf (T.take (i + 1)) d.1) d.2 ∧ d.1.length = i + 1 := by
  have hi : i < T.length := (List.getElem?_eq_some_iff.mp e).1
  have lt : (T.take i).length = i := by rw [List.length_take]; omega
  rw [take_snoc e]
  constructor
  · unfold growS
    rw [ordL_snoc, ← h1, List.map_flatMap, List.flatMap_map, List.flatMap_def, List.flatMap_def]
    congr 1
    exact List.map_congr_left fun d m => steps_fst (A := []) (h2 d m).1 ha hb
  · intro d m
    obtain ⟨c, mc, m⟩ := List.mem_flatMap.mp m
    obtain ⟨k1, k2⟩ := h2 c mc
    unfold stepsOf at m
    rcases List.mem_append.mp m with m | m
    · split at m
      · cases m
      · rw [List.mem_singleton.mp m]
        refine ⟨?_, by simp [k2]⟩
        rw [arcsOf_append (by rw [lt, k2])]
        exact withArc_ok k1 ha
    · split at m
      · cases m
      · rw [List.mem_singleton.mp m]
        refine ⟨?_, by simp [k2]⟩
        rw [arcsOf_append (by rw [lt, k2])]
        exact withArc_ok k1 hb
/-! ### for in a generator -/
theorem gfor_it {J : It} {n : Nat} {G : Hp → Prop} {Y : Nat → Hp → V → Hp → Prop} (wk : Walk J n G Y) {g : TG} {tb : TGn} {D : GEnds} {ys : List V} {σ : L2.St} {H1 : Hp} (Pv : Nat → List V → L2.St → Hp → Prop) (h0 : Pv 0 ys σ H1) (hG : ∀ i ys σ H, i ≤ n → Pv i ys σ H → G H)
    (hs : ∀ i x ys σ H H', i < n → Pv i ys σ H → Y i H x H' → g x σ H' fun σ2 H2 => tb { D with nx := Pv (i + 1), ct := Pv (i + 1), bk := D.nx } ys σ2 H2) (hd : ∀ ys σ H, Pv n ys σ H → D.nx ys σ H) :
    ∃ W : Nat → Nat → List V → L2.St → Hp → Prop, (∃ m, W 0 m ys σ H1) ∧ ∀ i m ys σ H, W i m ys σ H →
      (J.stop i H ∧ D.nx ys σ H) ∨ (J.go i H ∧ ∃ N : List V → L2.St → Hp → Prop, (∀ ys' σ' H', N ys' σ' H' → ∃ m', m' < m ∧ W (i + 1) m' ys' σ' H') ∧ ∀ x H', J.yld i H x H' → g x σ H' fun σ2 H2 => tb { D with nx := N, ct := N, bk := D.nx } ys σ2 H2) := by
  refine ⟨fun i m ys σ H => m = n - i ∧ i ≤ n ∧ Pv i ys σ H, ⟨n, by simp, Nat.zero_le _, h0⟩, ?_⟩
  rintro i m ys σ H ⟨rfl, hi, p⟩
  have q := hG i ys σ H hi p
  by_cases hlt : i < n
  · exact .inr ⟨wk.goes i H hlt q, Pv (i + 1), fun ys' σ' H' p' => ⟨n - (i + 1), by omega, rfl, hlt, p'⟩, fun x H' y => hs i x ys σ H H' hlt p (wk.yields i H x H' hlt q y)⟩
  · have e : i = n := by omega
    subst e
    exact .inl ⟨wk.stops H q, hd ys σ H p⟩
theorem ne_of_some_none {H : Hp} {a b : Addr} {o : HO} (ha : H a = none) (hb : H b = some o) : a ≠ b := fun z => by
  rw [z, hb] at ha
  cases ha
theorem arcR_inj {a b : Arc} (h : arcR a = arcR b) : a = b := by
  have h1 : (a.1 : Int) = (b.1 : Int) := by injection h
  have h2 : [(a.2 : Int)] = [(b.2 : Int)] := by injection h
  have h3 : (a.2 : Int) = (b.2 : Int) := by injection h2
  exact Prod.ext (by omega) (by omega)
theorem arcs_snoc {T : List Arc} {w : List Int} {i : Nat} {t : Arc} {s : Int} (e : T[i]? = some t) (k : w[i]? = some s) : arcsOf (T.take (i + 1)) (w.take (i + 1)) = arcsOf (T.take i) (w.take i) ++ (if s = 1 then [t] else if s = -1 then [(t.2, t.1)] else []) := by
  have h1 := (List.getElem?_eq_some_iff.mp e).1
  have h2 := (List.getElem?_eq_some_iff.mp k).1
  rw [take_snoc e, take_snoc k, arcsOf_append (by rw [List.length_take, List.length_take]; omega)]
  congr 1
  show (if s = 1 then [t] else if s = -1 then [(t.2, t.1)] else []) ++ arcsOf [] [] = _
  rw [show arcsOf [] [] = [] from rfl, List.append_nil]
/-! ### lists of pairs, waiting in the list at D -/
def PairX (K : PySem.W.Frag) (D : Addr) (H : Hp) (v : V) (d : List Arc) : Prop := ∃ l ys, v = .ref l ∧ H l = some (.lst ys) ∧ l ≠ D ∧ RowsAt K H ys (d.map arcR)
def PairsX (K : PySem.W.Frag) (D : Addr) (H : Hp) (xs : List V) (E : List (List Arc)) : Prop := xs.length = E.length ∧ ∀ (i : Nat) (v : V) (d : List Arc), xs[i]? = some v → E[i]? = some d → PairX K D H v d
theorem PairX.keep {K : PySem.W.Frag} {D : Addr} {H H' : Hp} {zs : List V} {v : V} {d : List Arc} (h : PairX K D H v d) (kp : ∀ b o, b ≠ D → H b = some o → H' b = some o) (hD : H D = some (.lst zs)) : PairX K D H' v d := by
  obtain ⟨l, ys, e, h1, h2, h3⟩ := h
  exact ⟨l, ys, e, kp _ _ h2 h1, h2, h3.mono fun _ _ q => sqt_but kp hD q⟩
theorem PairsX.keep {K : PySem.W.Frag} {D : Addr} {H H' : Hp} {zs xs : List V} {E : List (List Arc)} (h : PairsX K D H xs E) (kp : ∀ b o, b ≠ D → H b = some o → H' b = some o) (hD : H D = some (.lst zs)) : PairsX K D H' xs E := ⟨h.1, fun i v d a b => (h.2 i v d a b).keep kp hD⟩
theorem PairsX.snoc {K : PySem.W.Frag} {D : Addr} {H : Hp} {xs : List V} {E : List (List Arc)} {v : V} {d : List Arc} (h : PairsX K D H xs E) (r : PairX K D H v d) : PairsX K D H (xs ++ [v]) (E ++ [d]) := by
  refine ⟨by simp [h.1], fun i w e a b => ?_⟩
  by_cases c : i < xs.length
  · rw [List.getElem?_append_left c] at a
    rw [List.getElem?_append_left (by rw [← h.1]; exact c)] at b
    exact h.2 i w e a b
  · rw [List.getElem?_append_right (by omega)] at a
    rw [List.getElem?_append_right (by rw [← h.1]; omega), ← h.1] at b
    cases q : i - xs.length with
    | zero =>
      rw [q] at a b
      cases a
      cases b
      exact r
    | succ j =>
      rw [q] at a
      simp at a
theorem PairsX.pop {K : PySem.W.Frag} {D : Addr} {H : Hp} {xs : List V} {E : List (List Arc)} {v : V} {d : List Arc} (h : PairsX K D H (xs ++ [v]) (E ++ [d])) : PairsX K D H xs E ∧ PairX K D H v d := by
  have l : xs.length = E.length := by simpa using h.1
  refine ⟨⟨l, fun i w e a b => ?_⟩, h.2 xs.length v d (by simp) (by rw [l]; simp)⟩
  have ha := (List.getElem?_eq_some_iff.mp a).1
  exact h.2 i w e (by rw [List.getElem?_append_left ha]; exact a) (by rw [List.getElem?_append_left (by rw [← l]; exact ha)]; exact b)
def muV (H : Hp) (v : V) : Nat := match v with
  | .ref l => (match H l with | some (.lst ys) => 3 ^ ys.length | _ => 0)
  | _ => 0
def muP (D : Addr) (H : Hp) : Nat := match H D with | some (.lst ws) => (ws.map (muV H)).sum | _ => 0
abbrev sum3 (E : List (List Arc)) : Nat := (E.map fun d => 3 ^ d.length).sum
theorem mu_eq {K : PySem.W.Frag} {D : Addr} {H : Hp} {xs : List V} {E : List (List Arc)} (hD : H D = some (.lst xs)) (h : PairsX K D H xs E) : muP D H = sum3 E := by
  unfold muP
  rw [hD]
  show (xs.map (muV H)).sum = _
  congr 1
  refine List.ext_getElem? fun i => ?_
  rw [List.getElem?_map, List.getElem?_map]
  by_cases c : i < xs.length
  · have a : xs[i]? = some xs[i] := List.getElem?_eq_getElem c
    have b : E[i]? = some (E[i]'(by rw [← h.1]; exact c)) := List.getElem?_eq_getElem _
    obtain ⟨l, ys, e, h1, _, h3⟩ := h.2 i _ _ a b
    rw [a, b, e]
    show some (muV H (.ref l)) = some _
    unfold muV
    simp only [h1]
    rw [arows_len h3]
  · rw [List.getElem?_eq_none (by omega), List.getElem?_eq_none (by rw [← h.1]; omega)]
    rfl
theorem sum3_len : ∀ E : List (List Arc), E.length ≤ sum3 E
  | [] => Nat.le_refl _
  | d :: E => by
    have := sum3_len E
    have p : 0 < 3 ^ d.length := Nat.pow_pos (by decide)
    show E.length + 1 ≤ 3 ^ d.length + sum3 E
    omega
theorem sum3_snoc (E : List (List Arc)) (d : List Arc) : sum3 (E ++ [d]) = sum3 E + 3 ^ d.length := by simp [sum3]
noncomputable abbrev sumC (E : List (List Arc)) : Nat := (E.map (cnt [])).sum
theorem sumC_snoc (E : List (List Arc)) (d : List Arc) : sumC (E ++ [d]) = sumC E + cnt [] d := by simp [sumC]
/-! ### ways grown -/
theorem growW_snoc : ∀ (ms : List (List Int)) (ws : List (List Int)) (m : List Int), growW ws (ms ++ [m]) = (growW ws ms).flatMap fun w => m.map fun s => w ++ [s]
  | [], _, _ => rfl
  | _ :: ms, _, m => growW_snoc ms _ m
theorem growW_ways (ms : List (List Int)) : growW [[]] ms = waysOf ms := by
  rw [growW_eq]
  simp
theorem ways_mem : ∀ {ms : List (List Int)} {w : List Int}, w ∈ waysOf ms → ∀ s ∈ w, ∃ m ∈ ms, s ∈ m
  | [], w, h, s, hs => by
    rw [List.mem_singleton.mp h] at hs
    cases hs
  | m :: ms, w, h, s, hs => by
    obtain ⟨x, hx, h⟩ := List.mem_flatMap.mp h
    obtain ⟨r, hr, rfl⟩ := List.mem_map.mp h
    rcases List.mem_cons.mp hs with rfl | hs
    · exact ⟨m, List.mem_cons_self, hx⟩
    · obtain ⟨m', h1, h2⟩ := ways_mem hr s hs
      exact ⟨m', List.mem_cons_of_mem _ h1, h2⟩
theorem growW_le {ms : List (List Int)} (h : ms.length ≤ 10) (h2 : ∀ m ∈ ms, m.length ≤ 2) : (growW [[]] ms).length ≤ 1024 := by
  rw [growW_ways]
  exact Nat.le_trans (waysOf_le h2) (Nat.le_trans (Nat.pow_le_pow_right (by decide) h) (by decide))
theorem growW_len {ms : List (List Int)} {w : List Int} (h : w ∈ growW [[]] ms) : w.length = ms.length := by
  rw [growW_ways] at h
  exact mem_waysOf_len h
theorem menusL_len {n : Nat} {T : List Arc} : (menusL n T).length = T.length := by simp [menusL]
theorem menusL_at {n : Nat} {T : List Arc} {i : Nat} (h : i < T.length) : (menusL n T)[i]? = some (if i ∈ idleL n T then [0] else [-1, 1]) := by
  unfold menusL
  rw [List.getElem?_map, List.getElem?_range h]
  rfl
theorem menusL_mem {n : Nat} {T : List Arc} {m : List Int} (h : m ∈ menusL n T) : m = [0] ∨ m = [-1, 1] := by
  unfold menusL at h
  obtain ⟨i, _, rfl⟩ := List.mem_map.mp h
  split
  · exact .inl rfl
  · exact .inr rfl
theorem RowsAt.app {K : PySem.W.Frag} {H : Hp} {acc : List V} {E F : List (List Int)} {v : V} {d : List Int} {j : Nat} (h : RowsAt K H acc (E ++ F.take j)) (e : F[j]? = some d) (r : Row K H v d) : RowsAt K H (acc ++ [v]) (E ++ F.take (j + 1)) := by
  rw [take_snoc e, ← List.append_assoc]
  exact h.snoc r
theorem filter_snoc {α : Type} {l : List α} {p : α → Bool} {i : Nat} {a : α} (e : l[i]? = some a) : (l.take (i + 1)).filter p = (l.take i).filter p ++ (if p a = true then [a] else []) := by
  rw [take_snoc e, List.filter_append]
  congr 1
  rw [List.filter_cons]
  split <;> rfl
theorem flat_le {m : List Int} (hm : m.length ≤ 2) : ∀ L : List (List Int), (L.flatMap fun w => m.map fun s => w ++ [s]).length ≤ 2 * L.length
  | [] => Nat.le_refl _
  | a :: L => by
    rw [List.flatMap_cons, List.length_append, List.length_map, show (a :: L).length = L.length + 1 from rfl]
    have := flat_le hm L
    omega
theorem arcsOf_le : ∀ {T : List Arc} {w : List Int}, (arcsOf T w).length ≤ T.length
  | [], w => by
    unfold arcsOf
    exact Nat.zero_le _
  | t :: T, [] => by
    unfold arcsOf
    exact Nat.zero_le _
  | t :: T, s :: w => by
    unfold arcsOf
    rw [List.length_append]
    have := arcsOf_le (T := T) (w := w)
    have z : (if s = 1 then [t] else if s = -1 then [(t.2, t.1)] else []).length ≤ 1 := by
      split
      · exact Nat.le_refl _
      · split
        · exact Nat.le_refl _
        · exact Nat.zero_le _
    rw [List.length_cons]
    omega
theorem RowsAt.take {K : PySem.W.Frag} {H : Hp} {xs : List V} {D : List (List Int)} (h : RowsAt K H xs D) (k : Nat) : RowsAt K H (xs.take k) (D.take k) := by
  refine ⟨by rw [List.length_take, List.length_take, h.1], fun i v d a b => ?_⟩
  rw [List.getElem?_take] at a b
  split at a
  · rename_i c
    rw [if_pos c] at b
    exact h.2 i v d a b
  · cases a
theorem RowsAt.drop {K : PySem.W.Frag} {H : Hp} {xs : List V} {D : List (List Int)} (h : RowsAt K H xs D) (k : Nat) : RowsAt K H (xs.drop k) (D.drop k) := by
  refine ⟨by rw [List.length_drop, List.length_drop, h.1], fun i v d a b => ?_⟩
  rw [List.getElem?_drop] at a b
  exact h.2 _ v d a b
theorem RowsAt.append {K : PySem.W.Frag} {H : Hp} {xs ys : List V} {D E : List (List Int)} (h : RowsAt K H xs D) (g : RowsAt K H ys E) : RowsAt K H (xs ++ ys) (D ++ E) := by
  refine ⟨by rw [List.length_append, List.length_append, h.1, g.1], fun i v d a b => ?_⟩
  by_cases c : i < xs.length
  · rw [List.getElem?_append_left c] at a
    rw [List.getElem?_append_left (by rw [← h.1]; exact c)] at b
    exact h.2 i v d a b
  · rw [List.getElem?_append_right (by omega)] at a
    rw [List.getElem?_append_right (by rw [← h.1]; omega), ← h.1] at b
    exact g.2 _ v d a b
theorem RowsAt.erase {K : PySem.W.Frag} {H : Hp} {xs : List V} {Ts : List Tie} (h : RowsAt K H xs (Ts.map tieR)) (k : Nat) : RowsAt K H (xs.take k ++ xs.drop (k + 1)) ((Ts.eraseIdx k).map tieR) := by
  rw [List.eraseIdx_eq_take_drop_succ, List.map_append, List.map_take, List.map_drop]
  exact (h.take k).append (h.drop (k + 1))
/-! ### the law's masks -/
def ms6 : List Nat := [1, 2, 4, 8, 16, 32]
theorem ms6_bt {x y : Nat} (h : x < 6) : Bt ms6 x y ↔ x = y := by
  have e : ms6.getD x 0 = 2 ^ x := by
    rcases (show x = 0 ∨ x = 1 ∨ x = 2 ∨ x = 3 ∨ x = 4 ∨ x = 5 by omega) with rfl | rfl | rfl | rfl | rfl | rfl <;> rfl
  unfold Bt
  rw [e, Nat.testBit_two_pow, decide_eq_true_iff]
theorem ms6_ok {n : Nat} {A : List Arc} (hA : KG.In n A) (n6 : n ≤ 6) {x y : Nat} (hx : x < n) : Bt (retN A n ms6) x y ↔ Rch A x y := by
  refine retN_ok (ms := ms6) hA (show n ≤ 6 from n6) (fun x y h => ms6_bt (by omega)) (fun x y h => ?_) hx
  by_cases c : x < 6
  · rw [(ms6_bt c).mp h]
    exact .refl
  · unfold Bt at h
    rw [List.getD_eq_getElem?_getD, List.getElem?_eq_none (by show 6 ≤ x; omega)] at h
    simp at h
theorem ret_cond {n : Nat} {A : List Arc} (hA : KG.In n A) (n6 : n ≤ 6) {a : Arc} (m : a ∈ A) : ((retN A n ms6).getD a.2 0 &&& (retN A n ms6).getD a.1 0 = (retN A n ms6).getD a.1 0) ↔ Rch A a.2 a.1 := by
  have ab := hA a m
  constructor
  · intro h
    have z : ((retN A n ms6).getD a.1 0).testBit a.1 = true := (ms6_ok hA n6 ab.1).mpr .refl
    rw [← h, Nat.testBit_and, Bool.and_eq_true] at z
    exact (ms6_ok hA n6 ab.2).mp z.1
  · intro h
    refine Nat.eq_of_testBit_eq fun y => ?_
    rw [Nat.testBit_and]
    cases q : ((retN A n ms6).getD a.1 0).testBit y with
    | false => rw [Bool.and_false]
    | true =>
      rw [Bool.and_true]
      exact (ms6_ok hA n6 ab.2).mpr (h.trans ((ms6_ok hA n6 ab.1).mp q))
theorem retN_len {A : List Arc} : ∀ (k : Nat), (retN A k ms6).length = 6
  | 0 => rfl
  | k + 1 => by
    rw [retN_succ]
    unfold retR
    rw [fold_len, retN_len k]
theorem mid_le {n : Nat} (h : n ≤ 100000) : n ≤ sizeLine := Nat.le_of_lt (mid_lt h)
theorem rep_flat (v : V) : ∀ k : Nat, (List.replicate k [v]).flatten = List.replicate k v
  | 0 => rfl
  | k + 1 => by
    rw [List.replicate_succ, List.flatten_cons, rep_flat v k]
    rfl
/-! ### except LatticeError -/
theorem HK.subL {K : PySem.W.Frag} {mg : Str → Option Value} (h : HK K mg) : PySem.W.subIn K (.ref (ga K "LatticeError")) (.type "BaseException") = some true := of_decide_eq_true (h.says.fact 6 rfl)
theorem HK.exmL {K : PySem.W.Frag} {mg : Str → Option Value} (h : HK K mg) (x : Str) (hx : x ∈ errN) : PySem.W.exmOne K (.ref (ga K x)) (.ref (ga K "LatticeError")) = some true := by
  have ex := h.ef x hx
  have gg := h.gen
  unfold genB at gg
  simp only [Bool.and_eq_true, decide_eq_true_eq] at gg
  obtain ⟨g1, g2, g3, g4, g5, g6⟩ := gg
  unfold PySem.W.exmOne
  rw [if_pos (by rw [h.subL] <;> rfl), kitCls_ref g6 g5]
  show PySem.W.mroIn K (ga K x) (.ref (ga K "LatticeError")) = _
  rw [mroIn_of ex.mro]
  simp
/-! ### a statement by what it leaves -/
theorem seq_cut {t u : TS} {D : Ends} {σ : L2.St} {H : Hp} (P : L2.St → Hp → Prop) (k : ∀ σ' H', P σ' H' → u D σ' H') (h : ∀ R : L2.St → Hp → Prop, (∀ σ' H', P σ' H' → R σ' H') → t { D with nx := R } σ H) : tSeq t u D σ H := h (u D) k
theorem names_at {n low high x : Nat} (h1 : low < high) (h2 : high < n) (hx : x < n) : (rgV 0 (high : Int) ++ [nI low] ++ rgV (high : Int) ((n : Int) - 1))[x]? = some (nI (newP low high x)) := by
  rw [rgV_nat]
  unfold newP
  by_cases c : x < high
  · rw [List.getElem?_append_left (by simp; omega), List.getElem?_append_left (by simp; omega), if_pos c]
    exact nL_at (List.getElem?_range c)
  · rw [if_neg c]
    by_cases d : x = high
    · subst d
      rw [if_pos rfl, List.getElem?_append_left (by simp), List.getElem?_append_right (by simp)]
      simp
    · rw [if_neg d, List.getElem?_append_right (by simp; omega)]
      have e : ((nL (List.range high) ++ [nI low]).length) = high + 1 := by simp
      rw [e]
      unfold rgV
      rw [List.getElem?_map, List.getElem?_range (by omega)]
      show some (V.int ((high : Int) + ((x - (high + 1) : Nat) : Int))) = some (nI (x - 1))
      congr 2
      omega
/-! ### the list of ties that the law draws -/
structure TL (K : PySem.W.Frag) (p tl : Addr) (n : Nat) (Ts : List Tie) (H : Hp) : Prop where
  pool : PoolAt H p
  ne : tl ≠ p
  ex : ∃ ys, H tl = some (.lst ys) ∧ RowsAt K H ys (Ts.map tieR)
  ok : TiesOk n Ts
theorem TL.to {K : PySem.W.Frag} {p tl : Addr} {n : Nat} {Ts : List Tie} {H H' : Hp} (h : TL K p tl n Ts H) (t : PoolTo p H H') : TL K p tl n Ts H' := by
  obtain ⟨ys, h1, h2⟩ := h.ex
  exact ⟨t.2, h.ne, ⟨ys, t.1 _ _ h.ne h1, h2.mono fun _ _ q => t.tup h.pool q⟩, h.ok⟩
theorem PoolAt.same {H H' : Hp} {p : Addr} (h : PoolAt H p) (S : Same H H') : PoolAt H' p := by
  obtain ⟨xs, e, l⟩ := h
  exact ⟨xs, S _ _ e, l⟩
theorem TL.same {K : PySem.W.Frag} {p tl : Addr} {n : Nat} {Ts : List Tie} {H H' : Hp} (h : TL K p tl n Ts H) (S : Same H H') : TL K p tl n Ts H' := by
  obtain ⟨ys, h1, h2⟩ := h.ex
  exact ⟨h.pool.same S, h.ne, ⟨ys, S _ _ h1, h2.same S⟩, h.ok⟩
abbrev putT (Ts : List Tie) (k : Nat) (t : Tie) : List Tie := Ts.take k ++ [t] ++ Ts.drop k
theorem TL.put {K : PySem.W.Frag} {p tl tq : Addr} {n k : Nat} {Ts : List Tie} {H : Hp} {ys : List V} {t : Tie} (h : TL K p tl n Ts H) (e : H tl = some (.lst ys)) (r : Row K H (.ref tq) (tieR t)) (ht : t.1 < n ∧ t.2.1 < n ∧ t.1 ≠ t.2.1 ∧ 0 < t.2.2) :
    TL K p tl n (putT Ts k t) (upd H tl (.lst (ys.take k ++ [.ref tq] ++ ys.drop k))) := by
  obtain ⟨ys', h1, h2⟩ := h.ex
  rw [e] at h1
  cases h1
  obtain ⟨xs, ep, lp⟩ := h.pool
  refine ⟨⟨xs, by rw [upd_ne (Ne.symm h.ne)]; exact ep, lp⟩, h.ne, ⟨_, upd_same, ?_⟩, fun u m => ?_⟩
  · rw [putT, List.map_append, List.map_append, List.map_take, List.map_drop]
    refine RowsAt.updL e (((h2.take k).append ?_).append (h2.drop k))
    exact RowsAt.nil.snoc r
  · rcases List.mem_append.mp m with m | m
    · rcases List.mem_append.mp m with m | m
      · exact h.ok u (List.mem_of_mem_take m)
      · rw [List.mem_singleton.mp m]
        exact ht
    · exact h.ok u (List.mem_of_mem_drop m)
theorem putT_len {Ts : List Tie} {k : Nat} {t : Tie} : (putT Ts k t).length = Ts.length + 1 := by
  simp only [putT, List.length_append, List.length_take, List.length_drop, List.length_singleton]
  omega
theorem pool_put {p tl : Addr} {H H' : Hp} {o : HO} (t : PoolTo p H H') (ne : tl ≠ p) (hn : H tl = none) : PoolTo p H (upd H' tl o) := by
  obtain ⟨xs, e, l⟩ := t.2
  exact ⟨fun b u nb q => by
    rw [upd_ne (ne_of_none q hn)]
    exact t.1 b u nb q, xs, by rw [upd_ne (Ne.symm ne)]; exact e, l⟩
theorem sec_ok {n f d : Nat} (hf : f < n) (hd : d + 1 < n) : ∃ s : Nat, ((f : Int) + 1 + (d : Int)).fmod (n : Int) = (s : Int) ∧ s < n ∧ f ≠ s := by
  by_cases c : f + 1 + d < n
  · refine ⟨f + 1 + d, ?_, c, by omega⟩
    rw [Int.fmod_eq_emod_of_nonneg _ (by omega), Int.emod_eq_of_lt (by omega) (by omega)]
    omega
  · refine ⟨f + 1 + d - n, ?_, by omega, by omega⟩
    rw [Int.fmod_eq_emod_of_nonneg _ (by omega), show (f : Int) + 1 + (d : Int) = ((f + 1 + d - n : Nat) : Int) + (n : Int) by omega, Int.add_emod_right, Int.emod_eq_of_lt (by omega) (by omega)]
/-! ### what the law holds on to -/
theorem pool_sql {K : PySem.W.Frag} {p l : Addr} {H H' : Hp} {xs : List V} (t : PoolTo p H H') (ne : l ≠ p) (h : SqL K H l xs) : SqL K H' l xs := by
  rcases h with (h | ⟨u, h⟩) | h
  · exact .inl (.inl (t.1 _ _ ne h))
  · exact .inl (.inr ⟨u, t.1 _ _ ne h⟩)
  · exact .inr h
theorem pool_rows {K : PySem.W.Frag} {p : Addr} {H H' : Hp} {xs : List V} {D : List (List Int)} (hp : PoolAt H p) (t : PoolTo p H H') (h : RowsAt K H xs D) : RowsAt K H' xs D := h.mono fun _ _ q => t.tup hp q
structure LS (K : PySem.W.Frag) (p x tl du : Addr) (n : Nat) (Ts : List Tie) (xs ys : List V) (H : Hp) : Prop where
  pool : PoolAt H p
  web : WebAt K H x n Ts
  htl : H tl = some (.lst xs)
  ntl : tl ≠ p
  rx : RowsAt K H xs (Ts.map tieR)
  hdu : H du = some (.lst ys)
  ndu : du ≠ p
  ry : RowsAt K H ys (ordL [] (arcs Ts))
section
variable {K : PySem.W.Frag} {p x tl du : Addr} {n : Nat} {Ts : List Tie} {xs ys : List V} {H H' : Hp}
theorem LS.to (h : LS K p x tl du n Ts xs ys H) (t : PoolTo p H H') : LS K p x tl du n Ts xs ys H' :=
  ⟨t.2, h.web.pool h.pool t, t.1 _ _ h.ntl h.htl, h.ntl, pool_rows h.pool t h.rx, t.1 _ _ h.ndu h.hdu, h.ndu, pool_rows h.pool t h.ry⟩
theorem LS.same (h : LS K p x tl du n Ts xs ys H) (S : Same H H') : LS K p x tl du n Ts xs ys H' :=
  ⟨h.pool.same S, h.web.same S, S _ _ h.htl, h.ntl, h.rx.same S, S _ _ h.hdu, h.ndu, h.ry.same S⟩
end
/-! ### a place that no tie touches -/
theorem con_alone {T : List Arc} {q x : Nat} (h : ∀ a ∈ T, a.1 ≠ q ∧ a.2 ≠ q) (c : KG.Con T x q) : x = q := by
  unfold KG.Con at c
  rcases Rch.cases_tail c with e | ⟨y, _, m⟩
  · exact e
  · rcases mem_sym.mp m with m | m
    · exact absurd rfl (h _ m).2
    · exact absurd rfl (h _ m).1
theorem not_joined {n : Nat} {Ts : List Tie} {q : Nat} (hq : q < n) (h2 : 1 < n) (h : ∀ t ∈ Ts, t.1 ≠ q ∧ t.2.1 ≠ q) : ¬ JoinedW n Ts := fun j => by
  have all := lotOf_all.mp j
  have h' : ∀ a ∈ arcs Ts, a.1 ≠ q ∧ a.2 ≠ q := fun a m => by
    obtain ⟨t, mt, rfl⟩ := List.mem_map.mp m
    exact h t mt
  by_cases c : q = 0
  · subst c
    have := con_alone h' (all 1 h2).symm
    omega
  · exact c (con_alone h' (all q hq)).symm
theorem good_sub {n : Nat} {Ts Us : List Tie} (g : GoodW n Ts) (l : Us.length ≤ Ts.length) (h : ∀ t ∈ Us, t ∈ Ts) : GoodW n Us := ⟨g.n1, g.n6, by have := g.len; omega, fun t m => g.ok t (h t m)⟩
end K3
namespace K3
open PySem PySem.Spec PyProof.Rows L2 He HX KG
section
variable {P : Program} {w : World} {K : PySem.W.Frag} {mg : Str → Option Value} {base : Heap}
def NN_Web_is_joined : List PySem.Str := ["self"]
theorem sc_Web_is_joined : FnScope NN_Web_is_joined ["self"] (defScope (inClass (top 12) 3)) := ⟨rfl, rfl, rfl, by decide +kernel, rfl, by decide +kernel, by decide +kernel⟩
theorem ok_Web_is_joined (h : HK K mg) (c_Web_together : CalM P w K mg base 5 (wC K) "together" ["self", "place"] (sp_Web_together K)) : CalM P w K mg base 6 (wC K) "is_joined" ["self"] (sp_Web_is_joined K) := by
  have F : FunD K "is_joined" "Web.is_joined" (defArgs (inClass (top 12) 3)) (defBody (inClass (top 12) 3)) (defScope (inClass (top 12) 3)) [] [] (ma K (ga K "Web") "is_joined") (fdA K (ma K (ga K "Web") "is_joined")) := h.says.funD 6
  have wf := h.wf
  have G : FnOk P w K mg base (L2.CX P w) (5 + 1) (ma K (ga K "Web") "is_joined") (fdA K (ma K (ga K "Web") "is_joined")) ["self"] (sp_Web_is_joined K) := okX F sc_Web_is_joined (fun vs H Q E hs => by (repeat (obtain ⟨_, hs⟩ := hs)) <;> subst_vars <;> rfl) (fun cdv A outer s H vs Q E hr hs => ?_)
  · exact ⟨G, h.wf.cls, h.wf.meth _ (by decide +kernel), F.bindsN (fun _ _ _ _ _ _ us hl => match us, hl with | [_], _ => rfl)⟩
  refine ⟨_, (pss_one (ps_ret (pe_cmpR op_eq (pe_callB call_len_seq (by rfl) (h.free "len") (by decide +kernel) (pa_cons (pe_calM c_Web_together hr passL (pv 0) (pa_cons pe_int pa_nil)) pa_nil)) (pe_fld (pv 0) (by rfl)) (nomark _)))), ?_⟩
  obtain ⟨a, n, Ts, rfl, hw, gw, hq⟩ := hs
  obtain ⟨dx, t, xs, ha, ht, hx⟩ := id hw
  have n1 := gw.n1
  refine ⟨_, rfl, a, dx, _, rfl, ha, rfl, a, n, 0, Ts, rfl, hw, gw, by omega, fun H' q S hl => ?_⟩
  refine ⟨q, _, rfl, .inr hl, _, rfl, a, _, dx, _, _, rfl, S _ _ ha, wf.cls, wf.no _ (by decide +kernel), rfl, rfl, ?_⟩
  have e := nat_eqb (nL (lotOf n (arcs Ts) 0)).length n
  rw [e]
  have e2 : @decide ((nL (lotOf n (arcs Ts) 0)).length = n) _ = @decide (JoinedW n Ts) (Classical.propDecidable _) := by
    rw [decide_eq_decide, len_nL]
    rfl
  rw [e2]
  exact hq _ S
end
end K3
namespace K3
open PySem PySem.Spec PyProof.Rows L2 He HX KG
section
variable {P : Program} {w : World} {K : PySem.W.Frag} {mg : Str → Option Value} {base : Heap}
def NN_Web_together : List PySem.Str := ["self", "place"]
theorem sc_Web_together : FnScope NN_Web_together ["self", "place"] (defScope (inClass (top 12) 2)) := ⟨rfl, rfl, rfl, by decide +kernel, rfl, by decide +kernel, by decide +kernel⟩
theorem ok_Web_together (h : HK K mg) (x_BadPlace : CalX P w K mg base 3 "BadPlace" ps_X_BadPlace (sp_X_BadPlace K)) (c_hanging : Cal P w K mg base 1 "hanging" ["place", "lot", "ties"] (sp_hanging K)) : CalM P w K mg base 5 (wC K) "together" ["self", "place"] (sp_Web_together K) := by
  have F : FunD K "together" "Web.together" (defArgs (inClass (top 12) 2)) (defBody (inClass (top 12) 2)) (defScope (inClass (top 12) 2)) [] [] (ma K (ga K "Web") "together") (fdA K (ma K (ga K "Web") "together")) := h.says.funD 5
  have wf := h.wf
  have G : FnOk P w K mg base (L2.CX P w) (4 + 1) (ma K (ga K "Web") "together") (fdA K (ma K (ga K "Web") "together")) ["self", "place"] (sp_Web_together K) := okX F sc_Web_together (fun vs H Q E hs => by (repeat (obtain ⟨_, hs⟩ := hs)) <;> subst_vars <;> rfl) (fun cdv A outer s H vs Q E hr hs => ?_)
  · exact ⟨G, h.wf.cls, h.wf.meth _ (by decide +kernel), F.bindsN (fun _ _ _ _ _ _ us hl => match us, hl with | [_, _], _ => rfl)⟩
  refine ⟨_, (pss_cons (ps_if (PW.pt (pw_or (pt_cmpR op_lt (pv 1) pe_int (nomark _)) (pw_or1 (pt_cmpR op_ge (pv 1) (pe_fld (pv 0) (by rfl)) (nomark _)))))
        (pss_one (ps_raise (by rfl) (takes_of rfl rfl rfl rfl) (pmk_cal x_BadPlace hr (pa_cons (pv 1) pa_nil))))
        pss_nil)
      (pss_one (ps_ret (pe_callTy call_tuple_of (by rfl) (h.free "tuple") (by decide +kernel) (pa_cons (pe_cal c_hanging hr passL (pa_cons (pv 1) (pa_cons (pe_listRg (by rfl) (by rfl) (h.free "list") (prg_1 (by rfl) (h.free "range") (pe_fld (pv 0) (by rfl)))) (pa_cons (pe_fld (pv 0) (by rfl)) pa_nil)))) pa_nil))))), ?_⟩
  obtain ⟨a, n, p, Ts, rfl, hw, gw, hp, hq⟩ := hs
  obtain ⟨dx, t, xs, ha, ht, hx⟩ := id hw
  have n6 := gw.n6
  refine ⟨_, rfl, _, _, rfl, rfl, _, rfl, ite2 (fun c => ?_) (fun _ => ?_)⟩
  · exact absurd (of_decide_eq_true c) (by omega)
  refine ⟨_, rfl, _, rfl, a, _, dx, _, _, rfl, ha, wf.cls, wf.no _ (by decide +kernel), rfl, _, _, rfl, rfl, _, rfl, ite2 (fun c => ?_) (fun _ => ?_)⟩
  · exact absurd (of_decide_eq_true c) (by omega)
  refine ⟨_, rfl, _, rfl, a, _, dx, _, _, rfl, ha, wf.cls, wf.no _ (by decide +kernel), rfl, n, rfl, RgOk.of_le (by omega) (by omega) (by omega) (by omega), fun q hq' => ?_⟩
  rw [rgV_nat]
  have S1 := same_upd (o := .lst (nL (List.range n))) hq'
  refine ⟨_, rfl, a, _, dx, _, _, rfl, S1 _ _ ha, wf.cls, wf.no _ (by decide +kernel), rfl, n, p, q, t, xs, Ts, rfl, .inl (.inl upd_same), S1.tup ht, hx.same S1, gw.ok.inn, hp, n6, fun H' l S2 hn hl => ?_⟩
  refine ⟨l, _, rfl, .inl ⟨.inl (.inl hl), fun u hu => hq _ u ((S1.trans S2).trans (same_upd hu)) (.inl (.inl upd_same))⟩⟩
end
end K3
namespace K3
open PySem PySem.Spec PyProof.Rows L2 He HX KG
section
variable {P : Program} {w : World} {K : PySem.W.Frag} {mg : Str → Option Value} {base : Heap}
def NN_Webd_initd : List PySem.Str := ["self", "places", "ties", "index", "first", "second", "weight", "tie"]
theorem sc_Webd_initd : FnScope NN_Webd_initd ["self", "places", "ties"] (defScope (inClass (top 12) 0)) := ⟨rfl, rfl, rfl, by decide +kernel, rfl, by decide +kernel, by decide +kernel⟩
theorem ok_Webd_initd (h : HK K mg) (x_BadCount : CalX P w K mg base 1 "BadCount" ps_X_BadCount (sp_X_BadCount K)) (x_BadTie : CalX P w K mg base 1 "BadTie" ps_X_BadTie (sp_X_BadTie K)) : CalI P w K mg base 3 ["self", "places", "ties"] (sp_Webd_initd K) := by
  have F : FunD K "__init__" "Web.__init__" (defArgs (inClass (top 12) 0)) (defBody (inClass (top 12) 0)) (defScope (inClass (top 12) 0)) [] [] (ma K (ga K "Web") "__init__") (fdA K (ma K (ga K "Web") "__init__")) := h.says.funD 4
  have wf := h.wf
  have G : FnOk P w K mg base (L2.CX P w) (2 + 1) (ma K (ga K "Web") "__init__") (fdA K (ma K (ga K "Web") "__init__")) ["self", "places", "ties"] (sp_Webd_initd K) := okX F sc_Webd_initd (fun vs H Q E hs => by (repeat (obtain ⟨_, hs⟩ := hs)) <;> subst_vars <;> rfl) (fun cdv A outer s H vs Q E hr hs => ?_)
  · exact ⟨G, F.bindsN (fun _ _ _ _ _ _ us hl => match us, hl with | [_, _, _], _ => rfl)⟩
  refine ⟨_, (pss_cons (ps_if (PW.pt (pw_or (pt_cmpR op_lt (pv 1) pe_int (nomark _)) (pw_or1 (pt_cmpR op_gt (pv 1) pe_int (nomark _)))))
        (pss_one (ps_raise (by rfl) (takes_of rfl rfl rfl rfl) (pmk_cal x_BadCount hr (pa_cons (pv 1) pa_nil))))
        pss_nil)
      (pss_cons (ps_if (pt_cmpR op_gt (pe_callB call_len_seq (by rfl) (h.free "len") (by decide +kernel) (pa_cons (pv 2) pa_nil)) pe_int (nomark _))
        (pss_one (ps_raise (by rfl) (takes_of rfl rfl rfl rfl) (pmk_cal x_BadCount hr (pa_cons (pe_callB call_len_seq (by rfl) (h.free "len") (by decide +kernel) (pa_cons (pv 2) pa_nil)) pa_nil))))
        pss_nil)
      (pss_cons (ps_for (passes_of rfl) (by rfl) (pi_enum (by rfl) (h.free "enumerate") (pa_cons (pv 2) pa_nil)) (pg_tup (by rfl) (pgs_cons (pg_name (i := 3) sc_Webd_initd.nd rfl (by first | exact Or.inl rfl | exact Or.inr rfl)) (pgs_cons (pg_tup (by rfl) (pgs_cons (pg_name (i := 4) sc_Webd_initd.nd rfl (by first | exact Or.inl rfl | exact Or.inr rfl)) (pgs_cons (pg_name (i := 5) sc_Webd_initd.nd rfl (by first | exact Or.inl rfl | exact Or.inr rfl)) (pgs_cons (pg_name (i := 6) sc_Webd_initd.nd rfl (by first | exact Or.inl rfl | exact Or.inr rfl)) pgs_nil)))) pgs_nil)))
        (pss_cons (ps_if (PW.pt (pw_or (pt_cmpR op_lt (pv 4) pe_int (nomark _)) (pw_or (pt_cmpR op_ge (pv 4) (pv 1) (nomark _)) (pw_or (pt_cmpR op_lt (pv 5) pe_int (nomark _)) (pw_or1 (pt_cmpR op_ge (pv 5) (pv 1) (nomark _)))))))
          (pss_one (ps_raise (by rfl) (takes_of rfl rfl rfl rfl) (pmk_cal x_BadTie hr (pa_cons (pv 3) pa_nil))))
          pss_nil)
        (pss_one (ps_if (PW.pt (pw_or (pt_cmpR op_eq (pv 4) (pv 5) (nomark _)) (pw_or1 (pt_cmpR op_lt (pv 6) pe_int (nomark _)))))
          (pss_one (ps_raise (by rfl) (takes_of rfl rfl rfl rfl) (pmk_cal x_BadTie hr (pa_cons (pv 3) pa_nil))))
          pss_nil))))
      (pss_cons (ps_fld (pv 0) (pv 1) (by rfl))
      (pss_one (ps_fld (pv 0) (pe_callTy call_tuple_of (by rfl) (h.free "tuple") (by decide +kernel) (pa_cons (pe_lc (own := [("tie", 7)]) (by rfl) sc_Webd_initd.nd (pi_list (pv 2)) (blkOk_by (own := [("tie", 7)]) (N := NN_Webd_initd) (sc := defScope (inClass (top 12) 0)) (by decide +kernel)) (fun _ _ _ _ _ => by exact (pg_name (i := 7) sc_Webd_initd.nd rfl (by first | exact Or.inl rfl | exact Or.inr rfl))) (fun _ _ _ _ _ => by exact pts_nil) (fun _ _ _ _ _ => by exact (pe_callTy (call_tuple_ofK K rfl) (by rfl) (h.free "tuple") (by decide +kernel) (pa_cons (pv 7) pa_nil)))) pa_nil)) (by rfl))))))), ?_⟩
  obtain ⟨a, l, dx, n, xs, Ts, rfl, ha, hl, hx, gw, hq⟩ := hs
  have n1 := gw.n1
  have n6 := gw.n6
  have lT := gw.len
  have lx := rows_len hx
  refine ⟨_, rfl, _, _, rfl, rfl, _, rfl, ite2 (fun c => ?_) (fun _ => ?_)⟩
  · exact absurd (of_decide_eq_true c) (by omega)
  refine ⟨_, rfl, _, _, rfl, rfl, _, rfl, ite2 (fun c => ?_) (fun _ => ?_)⟩
  · exact absurd (of_decide_eq_true c) (by omega)
  refine ⟨_, rfl, l, _, rfl, .inl hl, _, _, rfl, rfl, _, rfl, ite2 (fun c => ?_) (fun _ => ?_)⟩
  · exact absurd (of_decide_eq_true c) (by omega)
  refine ⟨_, rfl, l, xs, rfl, hl, for_it (walk_enum (K := K) (a := l) (xs := xs)) (fun i σ H' => Same H H' ∧ ∃ r3 r4 r5 r6 r7, σ = [some (.ref a), some (nI n), some (.ref l), r3, r4, r5, r6, r7]) ?_ ?_ ?_ ?_⟩
  · exact ⟨Same.refl H, _, _, _, _, _, rfl⟩
  · rintro i σ H' _ ⟨S, _⟩
    exact S.seq hl
  · rintro i x σ H' H1 hi ⟨S, r3, r4, r5, r6, r7, rfl⟩ ⟨T, x1, x2, rfl, nT, rfl, e1, e2⟩
    cases e1
    obtain ⟨tt, q, ht', rfl, hq'⟩ := tie_get (hx.same S) e2
    have ok := gw.ok tt (List.mem_of_getElem? ht')
    refine ⟨T, _, rfl, .inl (.inl upd_same), rfl, _, _, rfl, _, _, rfl, q, _, rfl, (same_upd nT).tup hq', rfl, _, _, rfl, _, _, rfl, _, _, rfl, rfl, rfl, ?_⟩
    refine ⟨_, rfl, _, _, rfl, rfl, _, rfl, ite2 (fun c => ?_) (fun _ => ?_)⟩
    · exact absurd (of_decide_eq_true c) (by omega)
    refine ⟨_, rfl, _, rfl, _, _, rfl, rfl, _, rfl, ite2 (fun c => ?_) (fun _ => ?_)⟩
    · exact absurd (of_decide_eq_true c) (by omega)
    refine ⟨_, rfl, _, _, rfl, rfl, _, rfl, ite2 (fun c => ?_) (fun _ => ?_)⟩
    · exact absurd (of_decide_eq_true c) (by omega)
    refine ⟨_, rfl, _, rfl, _, _, rfl, rfl, _, rfl, ite2 (fun c => ?_) (fun _ => ?_)⟩
    · exact absurd (of_decide_eq_true c) (by omega)
    refine ⟨_, rfl, _, rfl, rfl, _, rfl, ite2 (fun c => ?_) (fun _ => ?_)⟩
    · rw [nat_eqb, decide_eq_true_eq] at c
      exact absurd c ok.2.2.1
    refine ⟨_, rfl, _, _, rfl, rfl, _, rfl, ite2 (fun c => ?_) (fun _ => ?_)⟩
    · exact absurd (of_decide_eq_true c) (by omega)
    exact ⟨S.trans (same_upd nT), _, _, _, _, _, rfl⟩
  · rintro σ H' ⟨S, r3, r4, r5, r6, r7, rfl⟩
    refine ⟨_, rfl, _, rfl, a, _, dx, _, rfl, S _ _ ha, wf.cls, wf.no _ (by decide +kernel), by decide, ?_⟩
    have ha' := S _ _ ha
    have e1 : putF "places" (nI n) [] = [(("places" : Str), nI n)] := rfl
    rw [e1]
    have hl1 : SqL K (upd H' a (.ins (wC K) dx [("places", nI n)])) l xs := sql_ins ha' (fun _ z => nomatch z) (fun _ _ z => nomatch z) (S.seq hl)
    have hx1 : RowsAt K (upd H' a (.ins (wC K) dx [("places", nI n)])) xs (Ts.map tieR) := (hx.same S).mono fun _ _ q => sqt_ins ha' (fun _ z => nomatch z) (fun _ _ z => nomatch z) q
    refine ⟨_, rfl, l, rfl, ⟨_, hl1⟩, fun D hD => lc_list (K := K) (a := l) (xs := xs) (fun i G => G = upd (upd H' a (.ins (wC K) dx [("places", nI n)])) D (.lst ((xs.take i).map fun v => v))) rfl ?_ ?_ ?_⟩
    · rintro i G _ rfl
      exact (same_upd hD).seq hl1
    · rintro i v G hv rfl
      obtain ⟨d, hd, q, rfl, hq'⟩ := (hx1.same (same_upd (o := .lst ((xs.take i).map fun v => v)) hD)).get hv
      exact ⟨rfl, _, rfl, q, _, rfl, .inr ⟨hq', lcs hv (by omega) rfl⟩⟩
    · rintro G rfl
      rw [List.take_length, List.map_id']
      have S2 := same_upd (H := upd H' a (.ins (wC K) dx [("places", nI n)])) (o := .lst xs) hD
      refine ⟨D, _, rfl, .inl ⟨.inl (.inl upd_same), fun u hu => ?_⟩⟩
      have S3 := S2.trans (same_upd (o := .tup xs) hu)
      have ha2 := S3 _ _ (upd_same (H := H') (a := a) (o := .ins (wC K) dx [("places", nI n)]))
      refine ⟨_, rfl, a, _, dx, _, rfl, ha2, wf.cls, wf.no _ (by decide +kernel), (show 1 < 1000 by decide), ?_⟩
      have e2 : putF "ties" (.ref u) [(("places" : Str), nI n)] = [(("places" : Str), nI n), (("ties" : Str), V.ref u)] := by
        unfold putF
        rw [if_neg (by decide +kernel)]
        rfl
      rw [e2]
      refine hq _ (fun b o ne q => ?_) ⟨dx, u, xs, upd_same, ?_, ?_⟩
      · rw [upd_ne ne]
        refine S3 _ _ ?_
        rw [upd_ne ne]
        exact S _ _ q
      · exact sqt_ins ha2 (fun _ z => nomatch z) (fun _ _ z => nomatch z) (.inl (.inl upd_same))
      · exact (hx1.same S3).mono fun _ _ q => sqt_ins ha2 (fun _ z => nomatch z) (fun _ _ z => nomatch z) q
end
end K3
namespace K3
open PySem PySem.Spec PyProof.Rows L2 He HX KG
section
variable {P : Program} {w : World} {K : PySem.W.Frag} {mg : Str → Option Value} {base : Heap}
def NN__law_arcs : List PySem.Str := ["ties", "way", "arcs", "k"]
theorem sc__law_arcs : FnScope NN__law_arcs ["ties", "way"] (defScope (top 41)) := ⟨rfl, rfl, rfl, by decide +kernel, rfl, by decide +kernel, by decide +kernel⟩
theorem ok__law_arcs (h : HK K mg) : Cal P w K mg base 1 "_law_arcs" ["ties", "way"] (sp__law_arcs K) := by
  have F : FunD K "_law_arcs" "_law_arcs" (defArgs (top 41)) (defBody (top 41)) (defScope (top 41)) [] [] (ga K "_law_arcs") (fdA K (ga K "_law_arcs")) := h.says.funD 32
  have wf := h.wf
  have G : FnOk P w K mg base (L2.CX P w) (0 + 1) (ga K "_law_arcs") (fdA K (ga K "_law_arcs")) ["ties", "way"] (sp__law_arcs K) := okX F sc__law_arcs (fun vs H Q E hs => by (repeat (obtain ⟨_, hs⟩ := hs)) <;> subst_vars <;> rfl) (fun cdv A outer s H vs Q E hr hs => ?_)
  · exact ⟨G, h.glo _, F.kp, F.bindsN (fun _ _ _ _ _ _ us hl => match us, hl with | [_, _], _ => rfl)⟩
  refine ⟨_, (pss_cons (ps_set (i := 2) sc__law_arcs.nd rfl (by first | exact Or.inl rfl | exact Or.inr rfl) (pe_lst pa_nil))
      (pss_cons (ps_for (passes_of rfl) (by rfl) (pi_range1 (by rfl) (h.free "range") (pa_cons (pe_callB call_len_seq (by rfl) (h.free "len") (by decide +kernel) (pa_cons (pv 0) pa_nil)) pa_nil)) (pg_name (i := 3) sc__law_arcs.nd rfl (by first | exact Or.inl rfl | exact Or.inr rfl))
        (pss_cons (ps_if (pt_cmpR op_eq (pe_ix ix_tup (pv 1) (pv 3) (fun _ _ => rfl)) pe_int (nomark _))
          (pss_one (ps_expr (pe_bm PySem.F.plainAttrs_list PySem.F.slot_list_append PySem.F.type_list_append mt_append (pv 2) (pa_cons (pe_tup (pa_cons (pe_ix ix_tup (pe_ix ix_list (pv 0) (pv 3) (fun _ _ => rfl)) pe_int (fun _ _ => rfl)) (pa_cons (pe_ix ix_tup (pe_ix ix_list (pv 0) (pv 3) (fun _ _ => rfl)) pe_int (fun _ _ => rfl)) pa_nil))) pa_nil))))
          pss_nil)
        (pss_one (ps_if (pt_cmpR op_eq (pe_ix ix_tup (pv 1) (pv 3) (fun _ _ => rfl)) (pe_un un_neg pe_int) (nomark _))
          (pss_one (ps_expr (pe_bm PySem.F.plainAttrs_list PySem.F.slot_list_append PySem.F.type_list_append mt_append (pv 2) (pa_cons (pe_tup (pa_cons (pe_ix ix_tup (pe_ix ix_list (pv 0) (pv 3) (fun _ _ => rfl)) pe_int (fun _ _ => rfl)) (pa_cons (pe_ix ix_tup (pe_ix ix_list (pv 0) (pv 3) (fun _ _ => rfl)) pe_int (fun _ _ => rfl)) pa_nil))) pa_nil))))
          pss_nil))))
      (pss_one (ps_ret (pv 2))))), ?_⟩
  obtain ⟨l, d, xs, Ts, w, rfl, hl, hx, hd, lw, l10, hq⟩ := hs
  have lx := rows_len hx
  refine ⟨size0, fun ar har => ?_⟩
  have S0 := same_upd (o := .lst []) har
  refine ⟨_, rfl, l, _, rfl, .inl (S0.seq hl), _, rfl, by omega, by omega, for_range (n := xs.length) (fun i σ H' => Same H H' ∧ ∃ (ys : List V) (r : Option V), σ = [some (.ref l), some (.ref d), some (.ref ar), r] ∧ H' ar = some (.lst ys) ∧ RowsAt K H' ys ((arcsOf ((arcs Ts).take i) (w.take i)).map arcR) ∧ ys.length ≤ i) ?_ ?_ ?_⟩
  · exact ⟨S0, [], _, rfl, upd_same, .nil, Nat.le_refl _⟩
  · rintro i σ H' hi ⟨S, ys, r, rfl, h1, h2, h3⟩
    rw [show (0 : Int) + (i : Nat) = (i : Int) from Int.zero_add _]
    have hxi : xs[i]? = some xs[i] := List.getElem?_eq_getElem hi
    obtain ⟨tt, q, ht', e0, hq'⟩ := tie_get (hx.same S) hxi
    rw [e0] at hxi
    have e := arcs_at ht'
    obtain ⟨s, hsi⟩ : ∃ s, w[i]? = some s := ⟨_, List.getElem?_eq_getElem (by omega)⟩
    have sn := arcs_snoc e hsi
    refine ⟨_, rfl, _, rfl, d, _, _, _, rfl, rfl, S.tup hd, iL_atI hsi, rfl, _, rfl, ?_⟩
    rw [int_eqb]
    refine ite2 (fun c => ?_) (fun c => ?_)
    · rw [decide_eq_true_eq] at c
      refine ⟨_, rfl, .inl ⟨rfl, _, SqL.of h1⟩, _, rfl, _, rfl, l, _, _, _, rfl, rfl, S.seq hl, atI_nat hxi, q, _, _, _, rfl, rfl, hq', atI_nat (j := 0) rfl, _, rfl, _, rfl, l, _, _, _, rfl, rfl, S.seq hl, atI_nat hxi, q, _, _, _, rfl, rfl, hq', atI_nat (j := 1) rfl, small_size (show 2 ≤ 1000 by decide), fun p hp => ?_⟩
      have u2 := same_upd (o := .tup [nI tt.1, nI tt.2.1]) hp
      have g1 := u2 _ _ h1
      refine ⟨ar, _, _, rfl, rfl, g1, small_lt (by omega), ?_⟩
      have inv : Same H (upd (upd H' p (.tup [nI tt.1, nI tt.2.1])) ar (.lst (ys ++ [.ref p]))) ∧ ∃ (ys2 : List V) (r : Option V), [some (.ref l), some (.ref d), some (.ref ar), some (nI i)] = [some (.ref l), some (.ref d), some (.ref ar), r] ∧ (upd (upd H' p (.tup [nI tt.1, nI tt.2.1])) ar (.lst (ys ++ [.ref p]))) ar = some (.lst ys2) ∧ RowsAt K (upd (upd H' p (.tup [nI tt.1, nI tt.2.1])) ar (.lst (ys ++ [.ref p]))) ys2 ((arcsOf ((arcs Ts).take (i + 1)) (w.take (i + 1))).map arcR) ∧ ys2.length ≤ i + 1 := by
        refine ⟨fun b o q0 => ?_, ys ++ [.ref p], _, rfl, upd_same, ?_, by rw [List.length_append]; simp only [List.length_singleton]; omega⟩
        · rw [upd_ne (ne_of_none q0 har)]
          exact u2 _ _ (S _ _ q0)
        · rw [sn, if_pos c, List.map_append]
          exact ((h2.same u2).snoc (d := arcR (tt.1, tt.2.1)) ⟨p, rfl, .inl (.inl upd_same)⟩).updL g1
      have hd2 : SqT K (upd (upd H' p (.tup [nI tt.1, nI tt.2.1])) ar (.lst (ys ++ [.ref p]))) d (iL w) := inv.1.tup hd
      refine ⟨_, rfl, _, rfl, d, _, _, _, rfl, rfl, hd2, iL_atI hsi, _, rfl, rfl, _, rfl, ?_⟩
      rw [int_eqb]
      refine ite2 (fun c' => ?_) (fun _ => inv)
      rw [decide_eq_true_eq] at c'
      omega
    · rw [decide_eq_true_eq] at c
      refine ⟨_, rfl, _, rfl, d, _, _, _, rfl, rfl, S.tup hd, iL_atI hsi, _, rfl, rfl, _, rfl, ?_⟩
      rw [int_eqb]
      refine ite2 (fun c' => ?_) (fun c' => ?_)
      · rw [decide_eq_true_eq] at c'
        refine ⟨_, rfl, .inl ⟨rfl, _, SqL.of h1⟩, _, rfl, _, rfl, l, _, _, _, rfl, rfl, S.seq hl, atI_nat hxi, q, _, _, _, rfl, rfl, hq', atI_nat (j := 1) rfl, _, rfl, _, rfl, l, _, _, _, rfl, rfl, S.seq hl, atI_nat hxi, q, _, _, _, rfl, rfl, hq', atI_nat (j := 0) rfl, small_size (show 2 ≤ 1000 by decide), fun p hp => ?_⟩
        have u2 := same_upd (o := .tup [nI tt.2.1, nI tt.1]) hp
        have g1 := u2 _ _ h1
        refine ⟨ar, _, _, rfl, rfl, g1, small_lt (by omega), ?_⟩
        have inv : Same H (upd (upd H' p (.tup [nI tt.2.1, nI tt.1])) ar (.lst (ys ++ [.ref p]))) ∧ ∃ (ys2 : List V) (r : Option V), [some (.ref l), some (.ref d), some (.ref ar), some (nI i)] = [some (.ref l), some (.ref d), some (.ref ar), r] ∧ (upd (upd H' p (.tup [nI tt.2.1, nI tt.1])) ar (.lst (ys ++ [.ref p]))) ar = some (.lst ys2) ∧ RowsAt K (upd (upd H' p (.tup [nI tt.2.1, nI tt.1])) ar (.lst (ys ++ [.ref p]))) ys2 ((arcsOf ((arcs Ts).take (i + 1)) (w.take (i + 1))).map arcR) ∧ ys2.length ≤ i + 1 := by
          refine ⟨fun b o q0 => ?_, ys ++ [.ref p], _, rfl, upd_same, ?_, by rw [List.length_append]; simp only [List.length_singleton]; omega⟩
          · rw [upd_ne (ne_of_none q0 har)]
            exact u2 _ _ (S _ _ q0)
          · rw [sn, if_neg c, if_pos c', List.map_append]
            exact ((h2.same u2).snoc (d := arcR (tt.2.1, tt.1)) ⟨p, rfl, .inl (.inl upd_same)⟩).updL g1
        exact inv
      · rw [decide_eq_true_eq] at c'
        refine ⟨S, ys, _, rfl, h1, ?_, by omega⟩
        rw [sn, if_neg c, if_neg c', List.append_nil]
        exact h2
  · rintro σ H' ⟨S, ys, r, rfl, h1, h2, h3⟩
    rw [lx, List.take_of_length_le (by simp), List.take_of_length_le (by omega)] at h2
    exact ⟨_, rfl, hq _ ar ys S har h1 h2⟩
end
end K3
namespace K3
open PySem PySem.Spec PyProof.Rows L2 He HX KG
section
variable {P : Program} {w : World} {K : PySem.W.Frag} {mg : Str → Option Value} {base : Heap}
def NN__law_draw : List PySem.Str := ["pool", "many", "told"]
theorem sc__law_draw : FnScope NN__law_draw ["pool", "many"] (defScope (top 34)) := ⟨rfl, rfl, rfl, by decide +kernel, rfl, by decide +kernel, by decide +kernel⟩
theorem ok__law_draw (h : HK K mg) : Cal P w K mg base 1 "_law_draw" ["pool", "many"] (sp__law_draw K) := by
  have F : FunD K "_law_draw" "_law_draw" (defArgs (top 34)) (defBody (top 34)) (defScope (top 34)) [] [] (ga K "_law_draw") (fdA K (ga K "_law_draw")) := h.says.funD 25
  have wf := h.wf
  have G : FnOk P w K mg base (L2.CX P w) (0 + 1) (ga K "_law_draw") (fdA K (ga K "_law_draw")) ["pool", "many"] (sp__law_draw K) := okX F sc__law_draw (fun vs H Q E hs => by (repeat (obtain ⟨_, hs⟩ := hs)) <;> subst_vars <;> rfl) (fun cdv A outer s H vs Q E hr hs => ?_)
  · exact ⟨G, h.glo _, F.kp, F.bindsN (fun _ _ _ _ _ _ us hl => match us, hl with | [_, _], _ => rfl)⟩
  refine ⟨_, (pss_cons (ps_if (pt_cmpR (op_eqD hr.units) (pv 0) (pe_lst pa_nil) (nomark _))
        (pss_one (ps_ret pe_int))
        pss_nil)
      (pss_cons (ps_set (i := 2) sc__law_draw.nd rfl (by first | exact Or.inl rfl | exact Or.inr rfl) (pe_op op_modN (pe_callTy call_int1 (by rfl) (h.free "int") (by decide +kernel) (pa_cons (pe_ix ix_list (pv 0) pe_int (fun _ _ => rfl)) pa_nil)) (pv 1)))
      (pss_cons (ps_asg (pe_op op_fdivX (pe_ix ix_list (pv 0) pe_int (fun _ _ => rfl)) (pv 1)) (pg_sub (pv 0) pe_int set_list))
      (pss_cons (ps_if (pt_cmpR op_eq (pe_ix ix_list (pv 0) pe_int (fun _ _ => rfl)) pe_int (nomark _))
        (pss_one (ps_expr (pe_bm PySem.F.plainAttrs_list PySem.F.slot_list_pop PySem.F.type_list_pop mt_popAt (pv 0) (pa_cons pe_int pa_nil))))
        pss_nil)
      (pss_one (ps_ret (pv 2))))))), ?_⟩
  obtain ⟨p, m, rfl, ⟨xs, hp, hl⟩, pm, bm, hq⟩ := hs
  have hm0 : m ≠ 0 := by omega
  refine ⟨_, rfl, size0, fun q hq' => ?_⟩
  have hp' : (upd H q (.lst [])) p = some (.lst (xs.map V.int)) := same_upd hq' _ _ hp
  have S := same_upd (o := .lst []) hq'
  refine ⟨.list (dI xs), .list (dI []), dp_ints (.inl (.inl hp')), dp_ints (.inl (.inl upd_same)), sh_ints _, sh_ints _, _, rfl, ?_⟩
  rw [eqvL_ints]
  generalize upd H q (.lst []) = H1 at S hp' ⊢
  have fin : ∀ (H' : Hp) (i : Int) (ys : List Int), (∀ b o, b ≠ p → H1 b = some o → H' b = some o) → H' p = some (.lst (ys.map V.int)) → ys.length ≤ 65 → 0 ≤ i → i < m → Q (.int i) H' := fun H' i ys h1 h2 h3 a b =>
    hq H' i ⟨fun b o n q => h1 b o n (S b o q), ys, h2, h3⟩ a b
  refine ite2 (fun c => ?_) (fun c => ?_)
  · exact fin _ 0 xs (fun _ _ _ q => q) hp' hl (by omega) pm
  have c1 : xs ≠ [] := by simpa using c
  clear c
  obtain ⟨c, xs', rfl⟩ : ∃ c l, xs = c :: l := by
    cases xs with
    | nil => exact absurd rfl c1
    | cons c l => exact ⟨c, l, rfl⟩
  have rng : 0 ≤ c.fmod m ∧ c.fmod m < m := ⟨Int.fmod_nonneg_of_pos c pm, Int.fmod_lt_of_pos c pm⟩
  have ue : ∀ (o : HO) (b : Addr) (u : HO), b ≠ p → H1 b = some u → (upd H1 p o) b = some u := fun o b u n q => by
    rw [upd_ne n]
    exact q
  obtain ⟨j, j1, j2⟩ : ∃ j, ixN ((c :: xs').map V.int).length 0 = some j ∧ ((c :: xs').map V.int).set j (V.int (c.fdiv m)) = (c.fdiv m :: xs').map V.int := ⟨0, by simp [ixN], rfl⟩
  refine ⟨_, rfl, p, _, _, .int c, rfl, rfl, SqL.of hp', atI_nat (j := 0) rfl, .inl ⟨_, rfl, _, rfl, _, _, rfl, rfl, hm0, ?_⟩⟩
  refine ⟨_, rfl, p, _, _, .int c, rfl, rfl, SqL.of hp', atI_nat (j := 0) rfl, _, rfl, _, _, rfl, rfl, bm.divX hm0, _, rfl, p, _, _, j, rfl, rfl, hp', j1, ?_⟩
  rw [j2]
  refine ⟨_, rfl, p, _, _, .int (c.fdiv m), rfl, rfl, SqL.of upd_same, atI_nat (j := 0) rfl, rfl, _, rfl, ite2 (fun c2 => ?_) (fun c2 => ?_)⟩
  · refine ⟨_, rfl, .inl ⟨rfl, _, SqL.of upd_same⟩, p, _, 0, 0, .int (c.fdiv m), rfl, rfl, upd_same, by decide, by decide, by simp [seqIndex?], rfl, _, rfl, fin _ _ xs' (fun b u n q => ?_) ?_ (by simp at hl; omega) rng.1 rng.2⟩
    · rw [upd_ne n]
      exact ue _ b u n q
    · rw [upd_same]
      rfl
  · exact ⟨_, rfl, fin _ _ (c.fdiv m :: xs') (ue _) upd_same (by simpa using hl) rng.1 rng.2⟩
end
end K3
namespace K3
open PySem PySem.Spec PyProof.Rows L2 He HX KG
section
variable {P : Program} {w : World} {K : PySem.W.Frag} {mg : Str → Option Value} {base : Heap}
def NN__law_int : List PySem.Str := ["x"]
theorem sc__law_int : FnScope NN__law_int ["x"] (defScope (top 35)) := ⟨rfl, rfl, rfl, by decide +kernel, rfl, by decide +kernel, by decide +kernel⟩
theorem ok__law_int (h : HK K mg) : Cal P w K mg base 1 "_law_int" ["x"] (sp__law_int K) := by
  have F : FunD K "_law_int" "_law_int" (defArgs (top 35)) (defBody (top 35)) (defScope (top 35)) [] [] (ga K "_law_int") (fdA K (ga K "_law_int")) := h.says.funD 26
  have wf := h.wf
  have G : FnOk P w K mg base (L2.CX P w) (0 + 1) (ga K "_law_int") (fdA K (ga K "_law_int")) ["x"] (sp__law_int K) := okX F sc__law_int (fun vs H Q E hs => by (repeat (obtain ⟨_, hs⟩ := hs)) <;> subst_vars <;> rfl) (fun cdv A outer s H vs Q E hr hs => ?_)
  · exact ⟨G, h.glo _, F.kp, F.bindsN (fun _ _ _ _ _ _ us hl => match us, hl with | [_], _ => rfl)⟩
  refine ⟨_, (pss_one (ps_ret (pe_and (pe_callB call_isi (by rfl) (h.free "isinstance") (by decide +kernel) (pa_cons (pv 0) (pa_cons (pe_bltn (v := .ty "int") (by rfl) (h.free "int") (by decide +kernel) rfl) pa_nil))) (pe_one (pe_not (pe_callB call_isi (by rfl) (h.free "isinstance") (by decide +kernel) (pa_cons (pv 0) (pa_cons (pe_bltn (v := .ty "bool") (by rfl) (h.free "bool") (by decide +kernel) rfl) pa_nil)))))))), ?_⟩
  obtain ⟨i, rfl, hq⟩ := hs
  exact ⟨_, rfl, _, _, _, _, _, rfl, .ty _, .base (.int _), kit_ty (r := true) (by decide +kernel), _, rfl, iteT ⟨_, rfl, _, _, _, _, _, rfl, .ty _, .base (.int _), kit_ty (r := false) (by decide +kernel), _, rfl, hq⟩⟩
end
end K3
namespace K3
open PySem PySem.Spec PyProof.Rows L2 He HX KG
section
variable {P : Program} {w : World} {K : PySem.W.Frag} {mg : Str → Option Value} {base : Heap}
def NN__law_lesser_told : List PySem.Str := ["pool", "places", "ties", "count", "at", "left", "less", "joined", "tie", "both"]
theorem sc__law_lesser_told : FnScope NN__law_lesser_told ["pool", "places", "ties", "count"] (defScope (top 51)) := ⟨rfl, rfl, rfl, by decide +kernel, rfl, by decide +kernel, by decide +kernel⟩
theorem ok__law_lesser_told (h : HK K mg) (c_Webd_initd : CalI P w K mg base 3 ["self", "places", "ties"] (sp_Webd_initd K)) (c__law_draw : Cal P w K mg base 1 "_law_draw" ["pool", "many"] (sp__law_draw K)) (c__law_one_place : Cal P w K mg base 1 "_law_one_place" ["places", "ties", "at"] (sp__law_one_place K)) (c__law_order_list : Cal P w K mg base 2 "_law_order_list" ["places", "ties"] (sp__law_order_list K)) (c__law_orders_told : Cal P w K mg base 8 "_law_orders_told" ["web", "due"] (sp__law_orders_told K)) : Cal P w K mg base 9 "_law_lesser_told" ["pool", "places", "ties", "count"] (sp__law_lesser_told K) := by
  have F : FunD K "_law_lesser_told" "_law_lesser_told" (defArgs (top 51)) (defBody (top 51)) (defScope (top 51)) [] [] (ga K "_law_lesser_told") (fdA K (ga K "_law_lesser_told")) := h.says.funD 42
  have wf := h.wf
  have G : FnOk P w K mg base (L2.CX P w) (8 + 1) (ga K "_law_lesser_told") (fdA K (ga K "_law_lesser_told")) ["pool", "places", "ties", "count"] (sp__law_lesser_told K) := okX F sc__law_lesser_told (fun vs H Q E hs => by (repeat (obtain ⟨_, hs⟩ := hs)) <;> subst_vars <;> rfl) (fun cdv A outer s H vs Q E hr hs => ?_)
  · exact ⟨G, h.glo _, F.kp, F.bindsN (fun _ _ _ _ _ _ us hl => match us, hl with | [_, _, _, _], _ => rfl)⟩
  refine ⟨_, (pss_cons (ps_set (i := 4) sc__law_lesser_told.nd rfl (by first | exact Or.inl rfl | exact Or.inr rfl) (pe_cal c__law_draw hr passL (pa_cons (pv 0) (pa_cons (pe_callB call_len_seq (by rfl) (h.free "len") (by decide +kernel) (pa_cons (pv 2) pa_nil)) pa_nil))))
      (pss_cons (ps_set (i := 5) sc__law_lesser_told.nd rfl (by first | exact Or.inl rfl | exact Or.inr rfl) (pe_op op_cat (pe_slice sl_list (pv 2) po_none (po_some (pv 4))) (pe_slice sl_list (pv 2) (po_some (pe_op op_add (pv 4) pe_int)) po_none)))
      (pss_cons (ps_set (i := 6) sc__law_lesser_told.nd rfl (by first | exact Or.inl rfl | exact Or.inr rfl) (pe_cal c__law_order_list hr passL (pa_cons (pv 1) (pa_cons (pv 5) pa_nil))))
      (pss_cons (ps_if (pt_not (pt_val (pe_cal c__law_orders_told hr passL (pa_cons (pe_make wf.mkr c_Webd_initd.ok (hr.mono (by decide)) (by rfl) (h.glo "Web") c_Webd_initd.b .nil passL (pa_cons (pv 1) (pa_cons (pv 5) pa_nil))) (pa_cons (pv 6) pa_nil)))))
        (pss_one (ps_ret pe_bl))
        pss_nil)
      (pss_cons (ps_set (i := 7) sc__law_lesser_told.nd rfl (by first | exact Or.inl rfl | exact Or.inr rfl) (pe_cal c__law_one_place hr passL (pa_cons (pv 1) (pa_cons (pv 2) (pa_cons (pv 4) pa_nil)))))
      (pss_cons (ps_if (pt_cmpR (op_neD hr.units) (pe_lc (own := [("tie", 8)]) (by rfl) sc__law_lesser_told.nd (pi_list (pv 7)) (blkOk_by (own := [("tie", 8)]) (N := NN__law_lesser_told) (sc := defScope (top 51)) (by decide +kernel)) (fun _ _ _ _ _ => by exact (pg_name (i := 8) sc__law_lesser_told.nd rfl (by first | exact Or.inl rfl | exact Or.inr rfl))) (fun _ _ _ _ _ => by exact (pts_one (pt_cmpR op_eq (pe_ix (ix_tupK K rfl) (pv 8) pe_int (fun _ _ => rfl)) (pe_ix (ix_tupK K rfl) (pv 8) pe_int (fun _ _ => rfl)) (nomark _)))) (fun _ _ _ _ _ => by exact (pv 8))) (pe_lst pa_nil) (nomark _))
        (pss_one (ps_ret (pe_cmpR op_eq (pe_callB call_len_seq (by rfl) (h.free "len") (by decide +kernel) (pa_cons (pv 6) pa_nil)) (pv 3) (nomark _))))
        pss_nil)
      (pss_cons (ps_set (i := 9) sc__law_lesser_told.nd rfl (by first | exact Or.inl rfl | exact Or.inr rfl) (pe_cal c__law_order_list hr passL (pa_cons (pe_op op_sub (pv 1) pe_int) (pa_cons (pv 7) pa_nil))))
      (pss_cons (ps_if (pt_not (pt_val (pe_cal c__law_orders_told hr passL (pa_cons (pe_make wf.mkr c_Webd_initd.ok (hr.mono (by decide)) (by rfl) (h.glo "Web") c_Webd_initd.b .nil passL (pa_cons (pe_op op_sub (pv 1) pe_int) (pa_cons (pv 7) pa_nil))) (pa_cons (pv 9) pa_nil)))))
        (pss_one (ps_ret pe_bl))
        pss_nil)
      (pss_one (ps_ret (pe_cmpR op_eq (pe_op op_add (pe_callB call_len_seq (by rfl) (h.free "len") (by decide +kernel) (pa_cons (pv 6) pa_nil)) (pe_callB call_len_seq (by rfl) (h.free "len") (by decide +kernel) (pa_cons (pv 9) pa_nil))) (pv 3) (nomark _)))))))))))), ?_⟩
  obtain ⟨p, l, n, xs, Us, rfl, hp, hl, nlp, hx, gw, hne, hq⟩ := hs
  have n6 := gw.n6
  have n1 := gw.n1
  have l10 := gw.len
  have lx := rows_len hx
  have lp : 0 < Us.length := by
    cases Us with
    | nil => exact absurd rfl hne
    | cons a b => exact Nat.succ_pos _
  refine ⟨_, rfl, _, rfl, l, _, rfl, .inl hl, p, _, rfl, hp, by omega, bd64 (by omega), fun H1 at' t1 a0 a1 => ?_⟩
  obtain ⟨k, rfl⟩ := Int.eq_ofNat_of_zero_le a0
  have hk : k < Us.length := by omega
  obtain ⟨Ts, t, Ts', rfl, hk'⟩ : ∃ A b C, Us = A ++ b :: C ∧ A.length = k := ⟨Us.take k, Us[k], Us.drop (k + 1), by rw [List.getElem_cons_drop, List.take_append_drop], by rw [List.length_take]; omega⟩
  have hl1 := pool_sql t1 nlp hl
  have hx1 := pool_rows hp t1 hx
  have er : (Ts ++ t :: Ts').eraseIdx k = Ts ++ Ts' := by
    rw [List.eraseIdx_append_of_length_le (by omega), hk', Nat.sub_self]
    rfl
  have okt := gw.ok t (by simp)
  have n2 : 2 ≤ n := by omega
  have gE : GoodW n (Ts ++ Ts') := good_sub gw (by simp) fun u m => by
    rcases List.mem_append.mp m with m | m <;> simp [m]
  have lE : (Ts ++ Ts').length ≤ 10 := gE.len
  refine ⟨_, rfl, _, rfl, _, rfl, l, _, rfl, hl1, fun p1 hp1 => ?_⟩
  rw [cut_to]
  have u1 := same_upd (o := .lst (xs.take k)) hp1
  refine ⟨_, rfl, _, rfl, _, _, rfl, rfl, _, rfl, l, _, rfl, u1.seq hl1, fun p2 hp2 => ?_⟩
  rw [show ((k : Int) + 1) = ((k + 1 : Nat) : Int) from rfl, cut_from]
  have u2 := same_upd (o := .lst (xs.drop (k + 1))) hp2
  refine ⟨p1, p2, _, _, rfl, rfl, u2 _ _ upd_same, upd_same, small_size (by rw [List.length_take, List.length_drop]; omega), fun r hr => ?_⟩
  have u3 := same_upd (o := .lst (xs.take k ++ xs.drop (k + 1))) hr
  have S3 := (u1.trans u2).trans u3
  have hr3 : (upd (upd (upd H1 p1 (.lst (xs.take k))) p2 (.lst (xs.drop (k + 1)))) r (.lst (xs.take k ++ xs.drop (k + 1)))) r = some (.lst (xs.take k ++ xs.drop (k + 1))) := upd_same
  have hx3 := (hx1.erase k).same S3
  rw [er] at hx3
  have hx3' := hx1.same S3
  have hl3 := S3.seq hl1
  have T3 := t1.same S3
  generalize upd (upd (upd H1 p1 (.lst (xs.take k))) p2 (.lst (xs.drop (k + 1)))) r (.lst (xs.take k ++ xs.drop (k + 1))) = H3 at S3 hr3 hx3 hx3' hl3 T3 ⊢
  refine ⟨_, rfl, _, rfl, n, r, _, Ts ++ Ts', rfl, .inl (.inl hr3), hx3, gE.ok.inn, n6, lE, fun H4 le ys S4 _ hle hy => ?_⟩
  have T4 := T3.same S4
  refine ⟨_, rfl, _, rfl, ?_⟩
  intro x dx nx ndx ne
  have u4 := same_upd (o := .own x) ndx
  have nx4 : (upd H4 dx (.own x)) x = none := by
    rw [upd_ne (Ne.symm ne)]
    exact nx
  have u5 := u4.trans (same_upd (o := .ins (wC K) dx []) nx4)
  refine ⟨x, r, dx, n, _, (Ts ++ Ts'), rfl, upd_same, .inl (.inl (u5 _ _ (S4 _ _ hr3))), (hx3.same S4).same u5, gE, fun H5 but hw => ⟨rfl, ?_⟩⟩
  have S5 : Same H4 H5 := fun b o q => but b o (ne_of_none q nx) (u5 _ _ q)
  have T5 := T4.same S5
  refine ⟨_, rfl, x, le, n, Ts ++ Ts', ys, rfl, hw, gE, .inl (.inl (S5 _ _ hle)), hy.same S5, fun H6 S6 => ⟨_, rfl, iteF ?_⟩⟩
  have T6 := T5.same S6
  have S36 := (S4.trans S5).trans S6
  have hle6 := (S5.trans S6) _ _ hle
  refine ⟨_, rfl, _, rfl, _, rfl, n, k, l, xs, Ts, Ts', t, rfl, S36.seq hl3, hx3'.same S36, hk', gw, fun H7 jd zs S7 nj hj hz => ?_⟩
  have T7 := T6.same S7
  have hle7 := S7 _ _ hle6
  have lzs := rows_len hz
  rw [List.length_map] at lzs
  have ct := cnt_lesser (n := n) (T := arcs Ts) (T' := arcs Ts') (a := t.1) (b := t.2.1) (by rw [← List.map_append]; exact gE.ok.inn) okt.1 okt.2.1 okt.2.2.1
  have e1 : arcs (Ts ++ t :: Ts') = arcs Ts ++ (t.1, t.2.1) :: arcs Ts' := by simp
  have e2 : arcs Ts ++ arcs Ts' = arcs (Ts ++ Ts') := by simp
  rw [← e1, e2] at ct
  have lh : min t.1 t.2.1 < max t.1 t.2.1 := by omega
  have hn : max t.1 t.2.1 < n := by omega
  have eJ : mapA (newP (min t.1 t.2.1) (max t.1 t.2.1)) (arcs (Ts ++ Ts')) = arcs ((Ts ++ Ts').map fun u => ((newP (min t.1 t.2.1) (max t.1 t.2.1) u.1, newP (min t.1 t.2.1) (max t.1 t.2.1) u.2.1, u.2.2) : Tie)) := by
    unfold arcs mapA
    rw [List.map_map, List.map_map]
    rfl
  rw [eJ] at ct
  have okJ : ∀ u ∈ (Ts ++ Ts').map (fun u => ((newP (min t.1 t.2.1) (max t.1 t.2.1) u.1, newP (min t.1 t.2.1) (max t.1 t.2.1) u.2.1, u.2.2) : Tie)), u.1 < n - 1 ∧ u.2.1 < n - 1 ∧ 0 < u.2.2 := fun u m => by
    obtain ⟨v, mv, rfl⟩ := List.mem_map.mp m
    have := gE.ok v mv
    exact ⟨newP_lt lh hn this.1, newP_lt lh hn this.2.1, this.2.2.2⟩
  have lJ : ((Ts ++ Ts').map (fun u => ((newP (min t.1 t.2.1) (max t.1 t.2.1) u.1, newP (min t.1 t.2.1) (max t.1 t.2.1) u.2.1, u.2.2) : Tie))).length ≤ 10 := by
    rw [List.length_map]
    exact lE
  generalize (Ts ++ Ts').map (fun u => ((newP (min t.1 t.2.1) (max t.1 t.2.1) u.1, newP (min t.1 t.2.1) (max t.1 t.2.1) u.2.1, u.2.2) : Tie)) = J at ct okJ lJ hz lzs
  have lzJ := rows_len hz
  refine ⟨_, rfl, jd, rfl, ⟨_, .inl (.inl hj)⟩, fun Z hZ => lc_list (K := K) (a := jd) (xs := zs) (fun j G => ∃ acc, G = upd H7 Z (.lst acc) ∧ RowsAt K H7 acc (((J.take j).filter fun (u : Tie) => decide (u.1 = u.2.1)).map tieR)) ⟨[], rfl, .nil⟩ ?_ ?_ ?_⟩
  · rintro j G _ ⟨acc, rfl, _⟩
    exact .inl (.inl (same_upd hZ _ _ hj))
  · rintro j v G hv ⟨acc, rfl, st⟩
    have v1 := same_upd (H := H7) (o := .lst acc) hZ
    obtain ⟨u, q, hu, rfl, hq'⟩ := tie_get hz hv
    refine ⟨rfl, _, rfl, q, _, _, _, rfl, rfl, v1.tup hq', atI_nat (j := 0) rfl, _, rfl, q, _, _, _, rfl, rfl, v1.tup hq', atI_nat (j := 1) rfl, rfl, _, rfl, ?_⟩
    rw [nat_eqb]
    refine ite2 (fun c => ?_) (fun c => ?_)
    · refine ⟨_, rfl, acc, upd_same, small_lt ?_, acc ++ [.ref q], by rw [upd_upd], ?_⟩
      · rw [st.1, List.length_map]
        exact Nat.le_trans (List.length_filter_le _ _) (by rw [List.length_take]; omega)
      · rw [filter_snoc hu, if_pos c, List.map_append]
        exact st.snoc ⟨q, rfl, hq'⟩
    · refine ⟨acc, rfl, ?_⟩
      rw [filter_snoc hu, if_neg c, List.append_nil]
      exact st
  rintro G ⟨acc, rfl, st⟩
  rw [lzJ, List.take_length] at st
  have v1 := same_upd (H := H7) (o := .lst acc) hZ
  refine ⟨size0, fun e0 he0 => ?_⟩
  have v2 := same_upd (H := upd H7 Z (.lst acc)) (o := .lst []) he0
  have hZ2 := v2 _ _ (upd_same (H := H7) (a := Z) (o := .lst acc))
  have V12 := v1.trans v2
  refine ⟨.list (dR ((J.filter fun (u : Tie) => decide (u.1 = u.2.1)).map tieR)), .list (dI []), dp_rows (.inl (.inl hZ2)) (st.same V12), dp_ints (.inl (.inl upd_same)), sh_rows _, sh_ints _, _, rfl, ?_⟩
  rw [eqvL_rows0]
  have T8 := T7.same V12
  have hle8 := V12 _ _ hle7
  have lle : ys.length = cnt [] (arcs (Ts ++ Ts')) := by rw [hy.1, ordL_len]
  have lco : (ordL [] (arcs (Ts ++ t :: Ts'))).length = cnt [] (arcs (Ts ++ Ts')) + cnt [] (arcs J) := by rw [ordL_len]; exact ct
  generalize upd (upd H7 Z (.lst acc)) e0 (.lst []) = H8 at T8 hle8 V12 ⊢
  refine ite2 (fun c => ?_) (fun c => ?_)
  · have c0 : cnt [] (arcs J) = 0 := by
      cases hf : J.filter (fun (u : Tie) => decide (u.1 = u.2.1)) with
      | nil =>
        rw [hf] at c
        cases c
      | cons u r =>
        have mu : u ∈ J.filter (fun (u : Tie) => decide (u.1 = u.2.1)) := by
          rw [hf]
          exact List.mem_cons_self
        obtain ⟨m1, m2⟩ := List.mem_filter.mp mu
        have e : u.1 = u.2.1 := of_decide_eq_true m2
        refine cnt_loopM (a := u.1) (List.mem_map.mpr ⟨u, m1, ?_⟩)
        rw [← e]
    refine ⟨_, rfl, le, _, rfl, .inl (.inl (.inl hle8)), _, rfl, rfl, ?_⟩
    rw [nat_eqb, decide_eq_true (by omega)]
    exact hq _ T8
  · have nl : ∀ u ∈ J, u.1 ≠ u.2.1 := fun u m e => by
      have mu : u ∈ J.filter (fun (u : Tie) => decide (u.1 = u.2.1)) := List.mem_filter.mpr ⟨m, decide_eq_true e⟩
      cases hf : J.filter (fun (u : Tie) => decide (u.1 = u.2.1)) with
      | nil =>
        rw [hf] at mu
        cases mu
      | cons a b =>
        rw [hf] at c
        exact c rfl
    have gJ : GoodW (n - 1) J := ⟨by omega, by omega, lJ, fun u m => ⟨(okJ u m).1, (okJ u m).2.1, nl u m, (okJ u m).2.2⟩⟩
    have en : (n : Int) - 1 = ((n - 1 : Nat) : Int) := by omega
    have hj8 := V12 _ _ hj
    have hz8 := hz.same V12
    refine ⟨_, rfl, _, _, rfl, rfl, _, rfl, n - 1, jd, zs, J, congrArg (fun z => [V.int z, V.ref jd]) en, .inl (.inl hj8), hz8, gJ.ok.inn, by omega, lJ, fun H9 bo bs S9 _ hbo hb => ?_⟩
    have T9 := T8.same S9
    refine ⟨_, rfl, _, _, rfl, rfl, _, rfl, ?_⟩
    intro x2 dx2 nx ndx ne
    have u4 := same_upd (o := .own x2) ndx
    have nx4 : (upd H9 dx2 (.own x2)) x2 = none := by
      rw [upd_ne (Ne.symm ne)]
      exact nx
    have u5 := u4.trans (same_upd (o := .ins (wC K) dx2 []) nx4)
    refine ⟨x2, jd, dx2, (n - 1), zs, J, (congrArg (fun z => [V.ref x2, V.int z, V.ref jd]) en), upd_same, .inl (.inl (u5 _ _ (S9 _ _ hj8))), (hz8.same S9).same u5, gJ, fun Ha but hw => ⟨rfl, ?_⟩⟩
    have Sa : Same H9 Ha := fun b o q => but b o (ne_of_none q nx) (u5 _ _ q)
    have Ta := T9.same Sa
    refine ⟨_, rfl, x2, bo, n - 1, J, bs, rfl, hw, gJ, .inl (.inl (Sa _ _ hbo)), hb.same Sa, fun Hb Sb => ⟨_, rfl, iteF ?_⟩⟩
    have Tb := Ta.same Sb
    have hleb := ((S9.trans Sa).trans Sb) _ _ hle8
    have hbob := (Sa.trans Sb) _ _ hbo
    have lbo : bs.length = cnt [] (arcs J) := by rw [hb.1, ordL_len]
    refine ⟨_, rfl, le, _, rfl, .inl (.inl (.inl hleb)), _, rfl, bo, _, rfl, .inl (.inl (.inl hbob)), _, _, rfl, rfl, _, rfl, rfl, ?_⟩
    rw [show decide (V.int ((ys.length : Int) + (bs.length : Int)) = nI (ordL [] (arcs (Ts ++ t :: Ts'))).length) = true from decide_eq_true (congrArg V.int (by rw [lle, lbo, lco]; omega))]
    exact hq _ Tb
end
end K3
namespace K3
open PySem PySem.Spec PyProof.Rows L2 He HX KG
section
variable {P : Program} {w : World} {K : PySem.W.Frag} {mg : Str → Option Value} {base : Heap}
def NN__law_loose_told : List PySem.Str := ["places", "ties", "marks", "lot", "k", "web", "what", "told"]
theorem sc__law_loose_told : FnScope NN__law_loose_told ["places", "ties"] (defScope (top 49)) := ⟨rfl, rfl, rfl, by decide +kernel, rfl, by decide +kernel, by decide +kernel⟩
theorem ok__law_loose_told (h : HK K mg) (c_Webd_initd : CalI P w K mg base 3 ["self", "places", "ties"] (sp_Webd_initd K)) (c__law_marks : Cal P w K mg base 1 "_law_marks" ["places", "ties"] (sp__law_marks K)) (c__law_order_list : Cal P w K mg base 2 "_law_order_list" ["places", "ties"] (sp__law_order_list K)) (c__law_orders_told : Cal P w K mg base 8 "_law_orders_told" ["web", "due"] (sp__law_orders_told K)) (c__law_row_is : Cal P w K mg base 2 "_law_row_is" ["x", "due"] (sp__law_row_is K)) (c__law_try : Cal P w K mg base 14 "_law_try" ["what", "web"] (sp__law_try K)) : Cal P w K mg base 15 "_law_loose_told" ["places", "ties"] (sp__law_loose_told K) := by
  have F : FunD K "_law_loose_told" "_law_loose_told" (defArgs (top 49)) (defBody (top 49)) (defScope (top 49)) [] [] (ga K "_law_loose_told") (fdA K (ga K "_law_loose_told")) := h.says.funD 40
  have wf := h.wf
  have G : FnOk P w K mg base (L2.CX P w) (14 + 1) (ga K "_law_loose_told") (fdA K (ga K "_law_loose_told")) ["places", "ties"] (sp__law_loose_told K) := okX F sc__law_loose_told (fun vs H Q E hs => by (repeat (obtain ⟨_, hs⟩ := hs)) <;> subst_vars <;> rfl) (fun cdv A outer s H vs Q E hr hs => ?_)
  · exact ⟨G, h.glo _, F.kp, F.bindsN (fun _ _ _ _ _ _ us hl => match us, hl with | [_, _], _ => rfl)⟩
  refine ⟨_, (pss_cons (ps_set (i := 2) sc__law_loose_told.nd rfl (by first | exact Or.inl rfl | exact Or.inr rfl) (pe_cal c__law_marks hr passL (pa_cons (pv 0) (pa_cons (pv 1) pa_nil))))
      (pss_cons (ps_set (i := 3) sc__law_loose_told.nd rfl (by first | exact Or.inl rfl | exact Or.inr rfl) (pe_callTy call_tuple_of (by rfl) (h.free "tuple") (by decide +kernel) (pa_cons (pe_lc (own := [("k", 4)]) (by rfl) sc__law_loose_told.nd (pi_range1 (by rfl) (h.free "range") (pa_cons (pv 0) pa_nil)) (blkOk_by (own := [("k", 4)]) (N := NN__law_loose_told) (sc := defScope (top 49)) (by decide +kernel)) (fun _ _ _ _ _ => by exact (pg_name (i := 4) sc__law_loose_told.nd rfl (by first | exact Or.inl rfl | exact Or.inr rfl))) (fun _ _ _ _ _ => by exact (pts_one (pt_cmpR op_eq (pe_ix (ix_listK K rfl) (pv 2) (pv 4) (fun _ _ => rfl)) pe_int (nomark _)))) (fun _ _ _ _ _ => by exact (pv 4))) pa_nil)))
      (pss_cons (ps_set (i := 5) sc__law_loose_told.nd rfl (by first | exact Or.inl rfl | exact Or.inr rfl) (pe_make wf.mkr c_Webd_initd.ok (hr.mono (by decide)) (by rfl) (h.glo "Web") c_Webd_initd.b .nil passL (pa_cons (pv 0) (pa_cons (pe_callTy call_list_of (by rfl) (h.free "list") (by decide +kernel) (pa_cons (pv 1) pa_nil)) pa_nil))))
      (pss_cons (ps_for (passes_of rfl) (by rfl) (pi_range1 (by rfl) (h.free "range") (pa_cons pe_int pa_nil)) (pg_name (i := 6) sc__law_loose_told.nd rfl (by first | exact Or.inl rfl | exact Or.inr rfl))
        (pss_cons (ps_set (i := 7) sc__law_loose_told.nd rfl (by first | exact Or.inl rfl | exact Or.inr rfl) (pe_cal c__law_try hr passL (pa_cons (pv 6) (pa_cons (pv 5) pa_nil))))
        (pss_one (ps_if (PW.pt (pw_or (pt_cmpR op_ne (pe_ix ix_tup (pv 7) pe_int (fun _ _ => rfl)) pe_str (nomark _)) (pw_or1 (pt_not (pt_val (pe_cal c__law_row_is hr passL (pa_cons (pe_ix ix_tup (pv 7) pe_int (fun _ _ => rfl)) (pa_cons (pv 3) pa_nil))))))))
          (pss_one (ps_ret pe_bl))
          pss_nil))))
      (pss_one (ps_ret (pe_cal c__law_orders_told hr passL (pa_cons (pv 5) (pa_cons (pe_cal c__law_order_list hr passL (pa_cons (pv 0) (pa_cons (pv 1) pa_nil))) pa_nil))))))))), ?_⟩
  obtain ⟨n, l, xs, Ts, rfl, hl, hx, gw, nj, hq⟩ := hs
  have n6 := gw.n6
  have n1 := gw.n1
  have l10 := gw.len
  have hT := gw.ok.inn
  have lx := rows_len hx
  refine ⟨_, rfl, _, rfl, n, l, xs, Ts, rfl, hl, hx, hT, n6, fun H1 mk ms S1 nmk hmk hM h0 => ?_⟩
  have lm := lotOf_marks hM (h0 (by omega))
  refine ⟨_, rfl, n, rfl, by omega, by omega, fun D hD => lc_range (lo := 0) (n := n) (fun i H' => H' = upd H1 D (.lst (((List.range n).take i).filter (fun v => decide (ms.getD v 0 = 0)) |>.map nI))) rfl ?_ ?_⟩
  · rintro i H' hi rfl
    have ei := List.getElem?_range hi
    have em : ms[i]? = some (ms.getD i 0) := by rw [List.getD_eq_getElem?_getD, List.getElem?_eq_getElem (by rw [hM.1]; exact hi)]; rfl
    refine ⟨rfl, _, rfl, _, rfl, mk, _, _, _, rfl, rfl, .inl (.inl (same_upd hD _ _ hmk)), by rw [Int.zero_add]; exact nL_atI em, rfl, _, rfl, ite2 (fun c => ?_) (fun c => ?_)⟩
    · have c' : decide (ms.getD i 0 = 0) = true := by rw [← nat_eqb]; exact c
      refine ⟨_, rfl, ?_⟩
      exact lcf (p := fun v => decide (ms.getD v 0 = 0)) (g := nI) ei (by simp; omega) c' (congrArg V.int (Int.zero_add _))
    · have c' : decide (ms.getD i 0 = 0) = false := by
        rw [← nat_eqb]
        exact Bool.eq_false_iff.mpr c
      exact lcf_no (p := fun v => decide (ms.getD v 0 = 0)) (g := nI) ei c'
  rintro H' rfl
  rw [List.take_of_length_le (by simp), ← lm]
  have u1 := same_upd (o := .lst (nL (lotOf n (arcs Ts) 0))) hD
  refine ⟨D, _, rfl, .inl ⟨.inl (.inl upd_same), fun lt hlt => ?_⟩⟩
  have u2 := same_upd (o := .tup (nL (lotOf n (arcs Ts) 0))) hlt
  have S2 := S1.trans (u1.trans u2)
  have hlt2 : SqT K (upd (upd H1 D (.lst (nL (lotOf n (arcs Ts) 0)))) lt (.tup (nL (lotOf n (arcs Ts) 0)))) lt (nL (lotOf n (arcs Ts) 0)) := .inl (.inl upd_same)
  have u12 := u1.trans u2
  generalize upd (upd H1 D (.lst (nL (lotOf n (arcs Ts) 0)))) lt (.tup (nL (lotOf n (arcs Ts) 0))) = H2 at S2 hlt2 u12 ⊢
  refine ⟨_, rfl, _, rfl, l, _, rfl, .inl (S2.seq hl), fun g hg => ?_⟩
  have u3 := same_upd (o := .lst xs) hg
  have hg3 : (upd H2 g (.lst xs)) g = some (.lst xs) := upd_same
  have S3 := S2.trans u3
  have hlt3 := u3.tup hlt2
  generalize upd H2 g (.lst xs) = H3 at u3 hg3 S3 hlt3 ⊢
  intro x dx nx ndx ne
  have u4 := same_upd (o := .own x) ndx
  have nx4 : (upd H3 dx (.own x)) x = none := by
    rw [upd_ne (Ne.symm ne)]
    exact nx
  have u5 := u4.trans (same_upd (o := .ins (wC K) dx []) nx4)
  refine ⟨x, g, dx, n, xs, Ts, rfl, upd_same, .inl (.inl (u5 _ _ hg3)), hx.same (S3.trans u5), gw, fun H4 but hw => ⟨rfl, ?_⟩⟩
  have u6 : Same H3 H4 := fun b o q => but b o (ne_of_none q nx) (u5 _ _ q)
  have S4 := S3.trans u6
  have hlt4 := u6.tup hlt3
  refine ⟨2, rfl, by decide, by decide, for_range (n := 2) (fun i σ H' => Same H4 H' ∧ ∃ r4 r6 r7, σ = [some (nI n), some (.ref l), some (.ref mk), some (.ref lt), r4, some (.ref x), r6, r7]) ?_ ?_ ?_⟩
  · exact ⟨Same.refl _, _, _, _, rfl⟩
  · rintro i σ H' hi ⟨S5, r4, r6, r7, rfl⟩
    rw [show (0 : Int) + (i : Nat) = (i : Int) from Int.zero_add _]
    refine ⟨_, rfl, _, rfl, i, x, n, Ts, rfl, hw.same S5, gw, nj, fun H6 q p S6 hq6 hp6 => ?_⟩
    refine ⟨_, rfl, q, _, _, _, rfl, rfl, hq6, atI_nat (j := 0) rfl, rfl, _, rfl, iteNS rfl ?_⟩
    rw [nL_int] at hp6
    have hlt6 := (S5.trans S6).tup hlt4
    rw [nL_int] at hlt6
    exact ⟨_, rfl, q, _, _, _, rfl, rfl, hq6, atI_nat (j := 1) rfl, _, rfl, p, lt, _, rfl, hp6, hlt6, by rw [List.length_map]; exact Nat.le_trans lot_le (by omega), _, rfl, iteF ⟨S5.trans S6, _, _, _, rfl⟩⟩
  · rintro σ H' ⟨S5, r4, r6, r7, rfl⟩
    have S7 := S4.trans S5
    exact ⟨_, rfl, _, rfl, _, rfl, n, l, xs, Ts, rfl, S7.seq hl, hx.same S7, hT, n6, l10, fun H8 r ys S8 _ hr hy => ⟨x, r, n, Ts, ys, rfl, (hw.same S5).same S8, gw, .inl (.inl hr), hy, fun H9 S9 => hq _ ((S7.trans S8).trans S9)⟩⟩
end
end K3
namespace K3
open PySem PySem.Spec PyProof.Rows L2 He HX KG
section
variable {P : Program} {w : World} {K : PySem.W.Frag} {mg : Str → Option Value} {base : Heap}
def NN__law_lots_are : List PySem.Str := ["told", "due", "k"]
theorem sc__law_lots_are : FnScope NN__law_lots_are ["told", "due"] (defScope (top 39)) := ⟨rfl, rfl, rfl, by decide +kernel, rfl, by decide +kernel, by decide +kernel⟩
theorem ok__law_lots_are (h : HK K mg) (c__law_row_is : Cal P w K mg base 2 "_law_row_is" ["x", "due"] (sp__law_row_is K)) : Cal P w K mg base 3 "_law_lots_are" ["told", "due"] (sp__law_lots_are K) := by
  have F : FunD K "_law_lots_are" "_law_lots_are" (defArgs (top 39)) (defBody (top 39)) (defScope (top 39)) [] [] (ga K "_law_lots_are") (fdA K (ga K "_law_lots_are")) := h.says.funD 30
  have wf := h.wf
  have G : FnOk P w K mg base (L2.CX P w) (2 + 1) (ga K "_law_lots_are") (fdA K (ga K "_law_lots_are")) ["told", "due"] (sp__law_lots_are K) := okX F sc__law_lots_are (fun vs H Q E hs => by (repeat (obtain ⟨_, hs⟩ := hs)) <;> subst_vars <;> rfl) (fun cdv A outer s H vs Q E hr hs => ?_)
  · exact ⟨G, h.glo _, F.kp, F.bindsN (fun _ _ _ _ _ _ us hl => match us, hl with | [_, _], _ => rfl)⟩
  refine ⟨_, (pss_cons (ps_if (PW.pt (pw_or (pt_not (pt_val (pe_callB call_isi (by rfl) (h.free "isinstance") (by decide +kernel) (pa_cons (pv 0) (pa_cons (pe_bltn (v := .ty "list") (by rfl) (h.free "list") (by decide +kernel) rfl) pa_nil))))) (pw_or1 (pt_cmpR op_ne (pe_callB call_len_seq (by rfl) (h.free "len") (by decide +kernel) (pa_cons (pv 0) pa_nil)) (pe_callB call_len_seq (by rfl) (h.free "len") (by decide +kernel) (pa_cons (pv 1) pa_nil)) (nomark _)))))
        (pss_one (ps_ret pe_bl))
        pss_nil)
      (pss_cons (ps_for (passes_of rfl) (by rfl) (pi_range1 (by rfl) (h.free "range") (pa_cons (pe_callB call_len_seq (by rfl) (h.free "len") (by decide +kernel) (pa_cons (pv 1) pa_nil)) pa_nil)) (pg_name (i := 2) sc__law_lots_are.nd rfl (by first | exact Or.inl rfl | exact Or.inr rfl))
        (pss_one (ps_if (pt_not (pt_val (pe_cal c__law_row_is hr passL (pa_cons (pe_ix ix_list (pv 0) (pv 2) (fun _ _ => rfl)) (pa_cons (pe_ix ix_list (pv 1) (pv 2) (fun _ _ => rfl)) pa_nil)))))
          (pss_one (ps_ret pe_bl))
          pss_nil)))
      (pss_one (ps_ret pe_bl)))), ?_⟩
  obtain ⟨a, b, xs, ys, D, rfl, ha, hb, rx, ry, hn, hd, hq⟩ := hs
  refine ⟨_, rfl, _, _, _, _, _, rfl, .ty _, tyx_lst ha, kit_ty (r := true) (by decide +kernel), _, rfl, iteF ?_⟩
  refine ⟨_, rfl, a, _, rfl, .inl ha, _, rfl, b, _, rfl, .inl hb, rfl, _, rfl, iteNS (by rw [rx.1, ry.1]) ?_⟩
  have hy := ry.1
  have hx := rx.1
  refine ⟨_, rfl, b, _, rfl, .inl hb, _, rfl, by omega, by omega, for_range (n := ys.length) (fun i σ H' => H' = H ∧ ∃ r, σ = [some (.ref a), some (.ref b), r]) ⟨rfl, _, rfl⟩ ?_ ?_⟩
  · rintro i σ H' hi ⟨rfl, r, rfl⟩
    have hxi : xs[i]? = some xs[i] := List.getElem?_eq_getElem (by omega)
    have hyi : ys[i]? = some ys[i] := List.getElem?_eq_getElem hi
    obtain ⟨d, hd', q1, e1, r1⟩ := rx.get hxi
    obtain ⟨d2, hd2, q2, e2, r2⟩ := ry.get hyi
    rw [hd'] at hd2
    cases hd2
    refine ⟨_, rfl, _, rfl, a, _, _, _, rfl, rfl, ha, by rw [Int.zero_add]; exact atI_nat hxi, _, rfl, _, rfl, b, _, _, _, rfl, rfl, hb, by rw [Int.zero_add]; exact atI_nat hyi, ?_⟩
    exact ⟨q1, q2, d, by rw [e1, e2]; rfl, r1, r2, hd d (List.mem_of_getElem? hd'), _, rfl, iteF ⟨rfl, _, rfl⟩⟩
  · rintro σ H' ⟨rfl, r, rfl⟩
    exact hq
end
end K3
namespace K3
open PySem PySem.Spec PyProof.Rows L2 He HX KG
section
variable {P : Program} {w : World} {K : PySem.W.Frag} {mg : Str → Option Value} {base : Heap}
def NN__law_marks : List PySem.Str := ["places", "ties", "marks", "tie", "low", "high", "x"]
theorem sc__law_marks : FnScope NN__law_marks ["places", "ties"] (defScope (top 38)) := ⟨rfl, rfl, rfl, by decide +kernel, rfl, by decide +kernel, by decide +kernel⟩
theorem ok__law_marks (h : HK K mg) : Cal P w K mg base 1 "_law_marks" ["places", "ties"] (sp__law_marks K) := by
  have F : FunD K "_law_marks" "_law_marks" (defArgs (top 38)) (defBody (top 38)) (defScope (top 38)) [] [] (ga K "_law_marks") (fdA K (ga K "_law_marks")) := h.says.funD 29
  have wf := h.wf
  have G : FnOk P w K mg base (L2.CX P w) (0 + 1) (ga K "_law_marks") (fdA K (ga K "_law_marks")) ["places", "ties"] (sp__law_marks K) := okX F sc__law_marks (fun vs H Q E hs => by (repeat (obtain ⟨_, hs⟩ := hs)) <;> subst_vars <;> rfl) (fun cdv A outer s H vs Q E hr hs => ?_)
  · exact ⟨G, h.glo _, F.kp, F.bindsN (fun _ _ _ _ _ _ us hl => match us, hl with | [_, _], _ => rfl)⟩
  refine ⟨_, (pss_cons (ps_set (i := 2) sc__law_marks.nd rfl (by first | exact Or.inl rfl | exact Or.inr rfl) (pe_listRg (by rfl) (by rfl) (h.free "list") (prg_1 (by rfl) (h.free "range") (pv 0))))
      (pss_cons (ps_for (passes_of rfl) (by rfl) (pi_list (pv 1)) (pg_name (i := 3) sc__law_marks.nd rfl (by first | exact Or.inl rfl | exact Or.inr rfl))
        (pss_cons (ps_set (i := 4) sc__law_marks.nd rfl (by first | exact Or.inl rfl | exact Or.inr rfl) (pe_callB (call_min2 rfl) (by rfl) (h.free "min") (by decide +kernel) (pa_cons (pe_ix ix_list (pv 2) (pe_ix ix_tup (pv 3) pe_int (fun _ _ => rfl)) (fun _ _ => rfl)) (pa_cons (pe_ix ix_list (pv 2) (pe_ix ix_tup (pv 3) pe_int (fun _ _ => rfl)) (fun _ _ => rfl)) pa_nil))))
        (pss_cons (ps_set (i := 5) sc__law_marks.nd rfl (by first | exact Or.inl rfl | exact Or.inr rfl) (pe_callB (call_max2 rfl) (by rfl) (h.free "max") (by decide +kernel) (pa_cons (pe_ix ix_list (pv 2) (pe_ix ix_tup (pv 3) pe_int (fun _ _ => rfl)) (fun _ _ => rfl)) (pa_cons (pe_ix ix_list (pv 2) (pe_ix ix_tup (pv 3) pe_int (fun _ _ => rfl)) (fun _ _ => rfl)) pa_nil))))
        (pss_one (ps_setLc (i := 2) (own := [("x", 6)]) (by rfl) sc__law_marks.nd rfl rfl (sw_true rfl rfl rfl (by decide +kernel)) (pi_list (pv 2)) (blkOk_by (own := [("x", 6)]) (N := NN__law_marks) (sc := defScope (top 38)) (by decide +kernel)) (fun _ _ _ _ _ => by exact (pg_name (i := 6) sc__law_marks.nd rfl (by first | exact Or.inl rfl | exact Or.inr rfl))) (fun _ _ _ _ _ => by exact pts_nil) (fun _ _ _ _ _ => by exact (pe_ifExp (pt_cmpR op_eq (pv 6) (pv 5) (nomark _)) (pv 4) (pv 6))))))))
      (pss_one (ps_ret (pv 2))))), ?_⟩
  obtain ⟨n, l, xs, Ts, rfl, hl, hx, hT, n6, hq⟩ := hs
  have lx := rows_len hx
  refine ⟨_, rfl, n, rfl, RgOk.of_le (by omega) (by omega) (by omega) (by omega), fun m0 hm0 => ?_⟩
  rw [rgV_nat]
  have S1 := same_upd (o := .lst (nL (List.range n))) hm0
  refine ⟨_, rfl, l, rfl, ⟨_, S1.seq hl⟩, for_list (K := K) (a := l) (xs := xs) (fun i σ H' => Same H H' ∧ ∃ (m : Addr) (ms : List Nat) (r3 r4 r5 r6 : Option V), σ = [some (nI n), some (.ref l), some (.ref m), r3, r4, r5, r6] ∧ H m = none ∧ H' m = some (.lst (nL ms)) ∧ MK n ((arcs Ts).take i) ms ∧ (0 < n → ms[0]? = some 0)) ?_ ?_ ?_ ?_⟩
  · refine ⟨S1, m0, List.range n, _, _, _, _, rfl, hm0, upd_same, range_ok, fun h => ?_⟩
    rw [List.getElem?_range h]
  · rintro i σ H' _ ⟨S, _⟩
    exact S.seq hl
  · rintro i x σ H' hxi ⟨S, m, ms, r3, r4, r5, r6, rfl, nm, h1, h2, h0⟩
    obtain ⟨tt, q, ht', rfl, hq'⟩ := tie_get (hx.same S) hxi
    have e := arcs_at ht'
    have ab := in_at hT ht'
    obtain ⟨p1, hp1⟩ : ∃ p, ms[tt.1]? = some p := ⟨_, List.getElem?_eq_getElem (by rw [h2.1]; exact ab.1)⟩
    obtain ⟨p2, hp2⟩ : ∃ p, ms[tt.2.1]? = some p := ⟨_, List.getElem?_eq_getElem (by rw [h2.1]; exact ab.2)⟩
    have emin : (if (p2 : Int) < (p1 : Int) then (p2 : Int) else (p1 : Int)) = ((min p1 p2 : Nat) : Int) := by split <;> omega
    have emax : (if (p2 : Int) > (p1 : Int) then (p2 : Int) else (p1 : Int)) = ((max p1 p2 : Nat) : Int) := by split <;> omega
    have hm1 : SqL K H' m (nL ms) := .inl (.inl h1)
    refine ⟨_, rfl, _, rfl, q, _, _, _, rfl, rfl, hq', atI_nat (j := 0) rfl, m, _, _, _, rfl, rfl, hm1, nL_atI hp1, _, rfl, _, rfl, q, _, _, _, rfl, rfl, hq', atI_nat (j := 1) rfl, m, _, _, _, rfl, rfl, hm1, nL_atI hp2, _, _, rfl, ?_⟩
    rw [emin]
    refine ⟨_, rfl, _, rfl, q, _, _, _, rfl, rfl, hq', atI_nat (j := 0) rfl, m, _, _, _, rfl, rfl, hm1, nL_atI hp1, _, rfl, _, rfl, q, _, _, _, rfl, rfl, hq', atI_nat (j := 1) rfl, m, _, _, _, rfl, rfl, hm1, nL_atI hp2, _, _, rfl, ?_⟩
    rw [emax]
    refine ⟨_, rfl, m, rfl, ⟨_, hm1⟩, fun D hD => lc_list (K := K) (a := m) (xs := nL ms) (fun i G => G = upd H' D (.lst ((ms.take i).map fun x => nI (if x = max p1 p2 then min p1 p2 else x)))) rfl ?_ ?_ ?_⟩
    · rintro j G _ rfl
      exact (same_upd hD).seq hm1
    · rintro j v G hv rfl
      obtain ⟨y, hy, rfl⟩ := nL_get hv
      have l6 := h2.1
      refine ⟨rfl, _, rfl, _, rfl, rfl, _, rfl, ite2 (fun c => ?_) (fun c => ?_)⟩
      · rw [nat_eqb, decide_eq_true_eq] at c
        exact ⟨_, rfl, lcs hy (by omega) (by rw [if_pos c])⟩
      · rw [nat_eqb, decide_eq_true_eq] at c
        exact ⟨_, rfl, lcs hy (by omega) (by rw [if_neg c])⟩
    · rintro G rfl
      rw [len_nL, List.take_length]
      refine ⟨S.trans (same_upd hD), D, renM ms (max p1 p2) (min p1 p2), _, _, _, _, rfl, S.free hD, ?_, ?_, fun hn => ?_⟩
      · rw [upd_same]
        congr 2
        unfold renM nL
        rw [List.map_map]
        rfl
      · rw [take_snoc e]
        refine renM_ok h2 hp1 hp2 ?_
        by_cases c : p1 ≤ p2
        · exact .inr ⟨by omega, by omega⟩
        · exact .inl ⟨by omega, by omega⟩
      · unfold renM
        rw [List.getElem?_map, h0 hn]
        show some (if 0 = max p1 p2 then min p1 p2 else 0) = some 0
        congr 1
        split <;> omega
  · rintro σ H' ⟨S, m, ms, r3, r4, r5, r6, rfl, nm, h1, h2, h0⟩
    rw [lx, List.take_of_length_le (by simp)] at h2
    exact ⟨_, rfl, hq _ m ms S nm h1 h2 h0⟩
end
end K3
namespace K3
open PySem PySem.Spec PyProof.Rows L2 He HX KG
section
variable {P : Program} {w : World} {K : PySem.W.Frag} {mg : Str → Option Value} {base : Heap}
def NN__law_one_place : List PySem.Str := ["places", "ties", "at", "low", "high", "names", "told", "k", "tie"]
theorem sc__law_one_place : FnScope NN__law_one_place ["places", "ties", "at"] (defScope (top 50)) := ⟨rfl, rfl, rfl, by decide +kernel, rfl, by decide +kernel, by decide +kernel⟩
theorem ok__law_one_place (h : HK K mg) : Cal P w K mg base 1 "_law_one_place" ["places", "ties", "at"] (sp__law_one_place K) := by
  have F : FunD K "_law_one_place" "_law_one_place" (defArgs (top 50)) (defBody (top 50)) (defScope (top 50)) [] [] (ga K "_law_one_place") (fdA K (ga K "_law_one_place")) := h.says.funD 41
  have wf := h.wf
  have G : FnOk P w K mg base (L2.CX P w) (0 + 1) (ga K "_law_one_place") (fdA K (ga K "_law_one_place")) ["places", "ties", "at"] (sp__law_one_place K) := okX F sc__law_one_place (fun vs H Q E hs => by (repeat (obtain ⟨_, hs⟩ := hs)) <;> subst_vars <;> rfl) (fun cdv A outer s H vs Q E hr hs => ?_)
  · exact ⟨G, h.glo _, F.kp, F.bindsN (fun _ _ _ _ _ _ us hl => match us, hl with | [_, _, _], _ => rfl)⟩
  refine ⟨_, (pss_cons (ps_set (i := 3) sc__law_one_place.nd rfl (by first | exact Or.inl rfl | exact Or.inr rfl) (pe_callB (call_min2 rfl) (by rfl) (h.free "min") (by decide +kernel) (pa_cons (pe_ix ix_tup (pe_ix ix_list (pv 1) (pv 2) (fun _ _ => rfl)) pe_int (fun _ _ => rfl)) (pa_cons (pe_ix ix_tup (pe_ix ix_list (pv 1) (pv 2) (fun _ _ => rfl)) pe_int (fun _ _ => rfl)) pa_nil))))
      (pss_cons (ps_set (i := 4) sc__law_one_place.nd rfl (by first | exact Or.inl rfl | exact Or.inr rfl) (pe_callB (call_max2 rfl) (by rfl) (h.free "max") (by decide +kernel) (pa_cons (pe_ix ix_tup (pe_ix ix_list (pv 1) (pv 2) (fun _ _ => rfl)) pe_int (fun _ _ => rfl)) (pa_cons (pe_ix ix_tup (pe_ix ix_list (pv 1) (pv 2) (fun _ _ => rfl)) pe_int (fun _ _ => rfl)) pa_nil))))
      (pss_cons (ps_set (i := 5) sc__law_one_place.nd rfl (by first | exact Or.inl rfl | exact Or.inr rfl) (pe_op op_cat (pe_op op_cat (pe_listRg (by rfl) (by rfl) (h.free "list") (prg_1 (by rfl) (h.free "range") (pv 4))) (pe_lst (pa_cons (pv 3) pa_nil))) (pe_listRg (by rfl) (by rfl) (h.free "list") (prg_2 (by rfl) (h.free "range") (pv 4) (pe_op op_sub (pv 0) pe_int)))))
      (pss_cons (ps_set (i := 6) sc__law_one_place.nd rfl (by first | exact Or.inl rfl | exact Or.inr rfl) (pe_lst pa_nil))
      (pss_cons (ps_for (passes_of rfl) (by rfl) (pi_range1 (by rfl) (h.free "range") (pa_cons (pe_callB call_len_seq (by rfl) (h.free "len") (by decide +kernel) (pa_cons (pv 1) pa_nil)) pa_nil)) (pg_name (i := 7) sc__law_one_place.nd rfl (by first | exact Or.inl rfl | exact Or.inr rfl))
        (pss_one (ps_if (pt_cmpR op_ne (pv 7) (pv 2) (nomark _))
          (pss_cons (ps_set (i := 8) sc__law_one_place.nd rfl (by first | exact Or.inl rfl | exact Or.inr rfl) (pe_ix ix_list (pv 1) (pv 7) (fun _ _ => rfl)))
          (pss_one (ps_expr (pe_bm PySem.F.plainAttrs_list PySem.F.slot_list_append PySem.F.type_list_append mt_append (pv 6) (pa_cons (pe_tup (pa_cons (pe_ix ix_list (pv 5) (pe_ix ix_tup (pv 8) pe_int (fun _ _ => rfl)) (fun _ _ => rfl)) (pa_cons (pe_ix ix_list (pv 5) (pe_ix ix_tup (pv 8) pe_int (fun _ _ => rfl)) (fun _ _ => rfl)) (pa_cons (pe_ix ix_tup (pv 8) pe_int (fun _ _ => rfl)) pa_nil)))) pa_nil)))))
          pss_nil)))
      (pss_one (ps_ret (pv 6)))))))), ?_⟩
  obtain ⟨n, k0, l, xs, Ts, Ts', t, rfl, hl, hx, hk, gw, hq⟩ := hs
  have n6 := gw.n6
  have l10 := gw.len
  have lx := rows_len hx
  have lU : (Ts ++ t :: Ts').length = Ts.length + Ts'.length + 1 := by simp; omega
  have okt := gw.ok t (by simp)
  have et : (Ts ++ t :: Ts')[k0]? = some t := by rw [← hk]; simp
  have hxk : xs[k0]? = some (xs[k0]'(by omega)) := List.getElem?_eq_getElem (by omega)
  obtain ⟨t', q, ht', e0, hq'⟩ := tie_get hx hxk
  rw [et] at ht'
  cases ht'
  rw [e0] at hxk
  have emin : (if (t.2.1 : Int) < (t.1 : Int) then (t.2.1 : Int) else (t.1 : Int)) = ((min t.1 t.2.1 : Nat) : Int) := by split <;> omega
  have emax : (if (t.2.1 : Int) > (t.1 : Int) then (t.2.1 : Int) else (t.1 : Int)) = ((max t.1 t.2.1 : Nat) : Int) := by split <;> omega
  refine ⟨_, rfl, _, rfl, l, _, _, _, rfl, rfl, hl, atI_nat hxk, q, _, _, _, rfl, rfl, hq', atI_nat (j := 0) rfl, _, rfl, _, rfl, l, _, _, _, rfl, rfl, hl, atI_nat hxk, q, _, _, _, rfl, rfl, hq', atI_nat (j := 1) rfl, _, _, rfl, ?_⟩
  rw [emin]
  refine ⟨_, rfl, _, rfl, l, _, _, _, rfl, rfl, hl, atI_nat hxk, q, _, _, _, rfl, rfl, hq', atI_nat (j := 0) rfl, _, rfl, _, rfl, l, _, _, _, rfl, rfl, hl, atI_nat hxk, q, _, _, _, rfl, rfl, hq', atI_nat (j := 1) rfl, _, _, rfl, ?_⟩
  rw [emax]
  have lh : min t.1 t.2.1 < max t.1 t.2.1 := by omega
  have hn : max t.1 t.2.1 < n := by omega
  generalize min t.1 t.2.1 = low at lh hq ⊢
  generalize max t.1 t.2.1 = high at lh hn hq ⊢
  refine ⟨_, rfl, high, rfl, RgOk.of_le (by omega) (by omega) (by omega) (by omega), fun p1 hp1 => ?_⟩
  have u1 := same_upd (o := .lst (rgV 0 high)) hp1
  refine ⟨_, rfl, small_size (show 1 ≤ 1000 by decide), fun p2 hp2 => ?_⟩
  have u2 := same_upd (o := .lst [nI low]) hp2
  refine ⟨p1, p2, _, _, rfl, rfl, u2 _ _ upd_same, upd_same, small_size (by rw [rgV_length]; simp; omega), fun p3 hp3 => ?_⟩
  have u3 := same_upd (o := .lst (rgV 0 high ++ [nI low])) hp3
  refine ⟨_, rfl, _, rfl, _, _, rfl, rfl, high, _, rfl, rfl, RgOk.of_le (by omega) (by omega) (by omega) (by omega), fun p4 hp4 => ?_⟩
  have u4 := same_upd (o := .lst (rgV high ((n : Int) - 1))) hp4
  refine ⟨p3, p4, _, _, rfl, rfl, u4 _ _ upd_same, upd_same, small_size (by rw [List.length_append, rgV_length, rgV_length]; simp; omega), fun nm hnm => ?_⟩
  have u5 := same_upd (o := .lst (rgV 0 high ++ [nI low] ++ rgV high ((n : Int) - 1))) hnm
  have S5 := (((u1.trans u2).trans u3).trans u4).trans u5
  have hn5 := upd_same (H := upd (upd (upd (upd H p1 (.lst (rgV 0 high))) p2 (.lst [nI low])) p3 (.lst (rgV 0 high ++ [nI low]))) p4 (.lst (rgV high ((n : Int) - 1)))) (a := nm) (o := .lst (rgV 0 high ++ [nI low] ++ rgV high ((n : Int) - 1)))
  generalize upd (upd (upd (upd (upd H p1 (.lst (rgV 0 high))) p2 (.lst [nI low])) p3 (.lst (rgV 0 high ++ [nI low]))) p4 (.lst (rgV high ((n : Int) - 1)))) nm (.lst (rgV 0 high ++ [nI low] ++ rgV high ((n : Int) - 1))) = H5 at S5 hn5 ⊢
  refine ⟨size0, fun td htd => ?_⟩
  have u6 := same_upd (o := .lst []) htd
  have ntd : H td = none := S5.free htd
  have ntn : nm ≠ td := fun z => by
    rw [← z, hn5] at htd
    cases htd
  have S6 := S5.trans u6
  refine ⟨_, rfl, l, _, rfl, .inl (S6.seq hl), _, rfl, by omega, by omega, for_range (n := xs.length) (fun i σ H' => Same H H' ∧ ∃ (ys : List V) (r7 r8 : Option V), σ = [some (nI n), some (.ref l), some (nI k0), some (nI low), some (nI high), some (.ref nm), some (.ref td), r7, r8] ∧ H' nm = some (.lst (rgV 0 high ++ [nI low] ++ rgV high ((n : Int) - 1))) ∧ H' td = some (.lst ys) ∧ RowsAt K H' ys (((((Ts ++ t :: Ts').take i).eraseIdx k0).map fun u => ((newP low high u.1, newP low high u.2.1, u.2.2) : Tie)).map tieR) ∧ ys.length ≤ i) ?_ ?_ ?_⟩
  · exact ⟨S6, [], _, _, rfl, u6 _ _ hn5, upd_same, by simpa using RowsAt.nil, Nat.le_refl _⟩
  · rintro i σ H' hi ⟨S, ys, r7, r8, rfl, h1, h2, h3, h4⟩
    rw [show (0 : Int) + (i : Nat) = (i : Int) from Int.zero_add _]
    have hxi : xs[i]? = some xs[i] := List.getElem?_eq_getElem hi
    obtain ⟨v, q2, hv, e2, hq2⟩ := tie_get (hx.same S) hxi
    rw [e2] at hxi
    have okv := gw.ok v (List.mem_of_getElem? hv)
    have li : ((Ts ++ t :: Ts').take i).length = i := by rw [List.length_take]; omega
    rw [take_snoc hv]
    refine ⟨_, rfl, _, rfl, rfl, _, rfl, ite2 (fun c => ?_) (fun c => ?_)⟩
    · have c' : i ≠ k0 := fun z => by
        rw [z, decide_eq_true rfl] at c
        cases c
      have er : ((Ts ++ t :: Ts').take i ++ [v]).eraseIdx k0 = ((Ts ++ t :: Ts').take i).eraseIdx k0 ++ [v] := by
        by_cases d : k0 < i
        · rw [List.eraseIdx_append_of_lt_length (by rw [li]; exact d)]
        · rw [List.eraseIdx_of_length_le (by rw [List.length_append, li]; simp; omega), List.eraseIdx_of_length_le (by rw [li]; omega)]
      rw [er]
      have hN : SqL K H' nm (rgV 0 high ++ [nI low] ++ rgV high ((n : Int) - 1)) := .inl (.inl h1)
      refine ⟨_, rfl, _, rfl, l, _, _, _, rfl, rfl, S.seq hl, atI_nat hxi, ?_⟩
      refine ⟨_, rfl, .inl ⟨rfl, _, SqL.of h2⟩, _, rfl, _, rfl, q2, _, _, _, rfl, rfl, hq2, atI_nat (j := 0) rfl, nm, _, _, _, rfl, rfl, hN, atI_nat (names_at lh hn okv.1), _, rfl, _, rfl, q2, _, _, _, rfl, rfl, hq2, atI_nat (j := 1) rfl, nm, _, _, _, rfl, rfl, hN, atI_nat (names_at lh hn okv.2.1), _, rfl, q2, _, _, _, rfl, rfl, hq2, atI_nat (j := 2) rfl, small_size (show 3 ≤ 1000 by decide), fun z hz => ?_⟩
      have u7 := same_upd (o := .tup [nI (newP low high v.1), nI (newP low high v.2.1), .int v.2.2]) hz
      have g2 := u7 _ _ h2
      refine ⟨td, _, _, rfl, rfl, g2, small_lt (by omega), fun b o q0 => ?_, ys ++ [.ref z], _, _, rfl, ?_, upd_same, ?_, by rw [List.length_append]; simp only [List.length_singleton]; omega⟩
      · rw [upd_ne (ne_of_none q0 ntd)]
        exact u7 _ _ (S _ _ q0)
      · rw [upd_ne ntn]
        exact u7 _ _ h1
      · rw [List.map_append, List.map_append]
        exact ((h3.same u7).snoc (d := tieR (newP low high v.1, newP low high v.2.1, v.2.2)) ⟨z, rfl, .inl (.inl upd_same)⟩).updL g2
    · have c' : i = k0 := by
        have z : decide (nI i = nI k0) = true := by simpa using c
        rw [nat_eqb] at z
        exact of_decide_eq_true z
      have er : ((Ts ++ t :: Ts').take i ++ [v]).eraseIdx k0 = ((Ts ++ t :: Ts').take i).eraseIdx k0 := by
        rw [List.eraseIdx_append_of_length_le (by rw [li]; omega), List.eraseIdx_of_length_le (l := (Ts ++ t :: Ts').take i) (by rw [li]; omega), li, c', Nat.sub_self]
        simp
      rw [er]
      exact ⟨S, ys, _, _, rfl, h1, h2, h3, by omega⟩
  · rintro σ H' ⟨S, ys, r7, r8, rfl, h1, h2, h3, h4⟩
    have e3 : ((Ts ++ t :: Ts').take xs.length).eraseIdx k0 = Ts ++ Ts' := by
      rw [List.take_of_length_le (by omega), List.eraseIdx_append_of_length_le (by omega), hk, Nat.sub_self]
      rfl
    rw [e3] at h3
    exact ⟨_, rfl, hq _ td ys S ntd h2 h3⟩
end
end K3
namespace K3
open PySem PySem.Spec PyProof.Rows L2 He HX KG
section
variable {P : Program} {w : World} {K : PySem.W.Frag} {mg : Str → Option Value} {base : Heap}
def NN__law_order_list : List PySem.Str := ["places", "ties", "ways", "way"]
theorem sc__law_order_list : FnScope NN__law_order_list ["places", "ties"] (defScope (top 43)) := ⟨rfl, rfl, rfl, by decide +kernel, rfl, by decide +kernel, by decide +kernel⟩
theorem ok__law_order_list (h : HK K mg) (c__law_arcs : Cal P w K mg base 1 "_law_arcs" ["ties", "way"] (sp__law_arcs K)) (c__law_vanish : Cal P w K mg base 1 "_law_vanish" ["places", "arcs"] (sp__law_vanish K)) (c__law_ways : Cal P w K mg base 1 "_law_ways" ["menus"] (sp__law_ways K)) : Cal P w K mg base 2 "_law_order_list" ["places", "ties"] (sp__law_order_list K) := by
  have F : FunD K "_law_order_list" "_law_order_list" (defArgs (top 43)) (defBody (top 43)) (defScope (top 43)) [] [] (ga K "_law_order_list") (fdA K (ga K "_law_order_list")) := h.says.funD 34
  have wf := h.wf
  have G : FnOk P w K mg base (L2.CX P w) (1 + 1) (ga K "_law_order_list") (fdA K (ga K "_law_order_list")) ["places", "ties"] (sp__law_order_list K) := okX F sc__law_order_list (fun vs H Q E hs => by (repeat (obtain ⟨_, hs⟩ := hs)) <;> subst_vars <;> rfl) (fun cdv A outer s H vs Q E hr hs => ?_)
  · exact ⟨G, h.glo _, F.kp, F.bindsN (fun _ _ _ _ _ _ us hl => match us, hl with | [_, _], _ => rfl)⟩
  refine ⟨_, (pss_cons (ps_set (i := 2) sc__law_order_list.nd rfl (by first | exact Or.inl rfl | exact Or.inr rfl) (pe_cal c__law_ways hr passL (pa_cons (pe_op op_rep (pe_lst (pa_cons (pe_tup (pa_cons (pe_un un_neg pe_int) (pa_cons pe_int pa_nil))) pa_nil)) (pe_callB call_len_seq (by rfl) (h.free "len") (by decide +kernel) (pa_cons (pv 1) pa_nil))) pa_nil)))
      (pss_one (ps_ret (pe_lc (own := [("way", 3)]) (by rfl) sc__law_order_list.nd (pi_list (pv 2)) (blkOk_by (own := [("way", 3)]) (N := NN__law_order_list) (sc := defScope (top 43)) (by decide +kernel)) (fun _ _ _ _ _ => by exact (pg_name (i := 3) sc__law_order_list.nd rfl (by first | exact Or.inl rfl | exact Or.inr rfl))) (fun _ _ _ _ _ => by exact (pts_one (pt_val (pe_cal c__law_vanish hr passL (pa_cons (pv 0) (pa_cons (pe_cal c__law_arcs hr passL (pa_cons (pv 1) (pa_cons (pv 3) pa_nil))) pa_nil)))))) (fun _ _ _ _ _ => by exact (pv 3)))))), ?_⟩
  obtain ⟨n, l, xs, Ts, rfl, hl, hx, hT, n6, l10, hq⟩ := hs
  have lx := rows_len hx
  refine ⟨_, rfl, small_size (show 2 ≤ 1000 by decide), fun p hp => ?_⟩
  have u1 := same_upd (o := .tup [.int (-1), .int 1]) hp
  refine ⟨small_size (show 1 ≤ 1000 by decide), fun q hq' => ?_⟩
  have u2 := same_upd (o := .lst [.ref p]) hq'
  have S2 := u1.trans u2
  refine ⟨_, rfl, l, _, rfl, .inl (S2.seq hl), q, _, _, rfl, rfl, upd_same, by omega, by omega, mid_le (by simp; omega), fun r hr => ?_⟩
  have e1 : (List.replicate (xs.length : Int).toNat [V.ref p]).flatten = List.replicate xs.length (V.ref p) := by
    rw [Int.toNat_natCast]
    induction xs.length with
    | zero => rfl
    | succ k ih =>
      rw [List.replicate_succ, List.flatten_cons, ih]
      rfl
  rw [e1]
  have u3 := same_upd (o := .lst (List.replicate xs.length (V.ref p))) hr
  have S3 := S2.trans u3
  have hp3 := (u2.trans u3) _ _ (upd_same (H := H) (a := p) (o := .tup [.int (-1), .int 1]))
  refine ⟨r, _, (arcs Ts).map (fun _ => [-1, 1]), rfl, .inl (.inl upd_same), ⟨by simp [lx], fun i v d a b => ?_⟩, by simp; omega, fun m h => ?_, fun H1 g ys S4 hg hy => ?_⟩
  · have z1 := (List.mem_replicate.mp (List.mem_of_getElem? a)).2
    obtain ⟨_, _, rfl⟩ := List.mem_map.mp (List.mem_of_getElem? b)
    rw [z1]
    exact ⟨p, rfl, .inl (.inl hp3)⟩
  · obtain ⟨_, _, rfl⟩ := List.mem_map.mp h
    exact Nat.le_refl _
  have SS := S3.trans S4
  have big := waysOf_le (ms := (arcs Ts).map (fun _ => [-1, 1])) fun m h => by
    obtain ⟨_, _, rfl⟩ := List.mem_map.mp h
    exact Nat.le_refl _
  have big2 : (waysOf ((arcs Ts).map (fun _ => [-1, 1]))).length ≤ 1024 := Nat.le_trans big (Nat.le_trans (Nat.pow_le_pow_right (by decide) (show _ ≤ 10 by simp; omega)) (by decide))
  refine ⟨_, rfl, g, rfl, ⟨_, .inl (.inl hg)⟩, fun D hD => lc_it (walk_list (K := K) (a := g) (xs := ys)) (fun i G => (∀ b o, b ≠ D → H1 b = some o → G b = some o) ∧ ∃ acc, G D = some (.lst acc) ∧ RowsAt K G acc (((waysOf ((arcs Ts).map (fun _ => [-1, 1]))).take i).filter fun w => decide (van n (arcsOf (arcs Ts) w) = []))) ?_ ?_ ?_ ?_⟩
  · refine ⟨fun b o ne q => ?_, [], upd_same, .nil⟩
    rw [upd_ne ne]
    exact q
  · rintro i G _ ⟨kp, _⟩
    exact .inl (.inl (kp _ _ (ne_of_none hg hD) hg))
  · rintro i x G G' hi ⟨kp, acc, hd, st⟩ ⟨rfl, hxi⟩
    have SD : Same H1 G' := fun b o q => kp b o (ne_of_none q hD) q
    obtain ⟨wv, hwi, q2, rfl, hq2⟩ := (hy.same SD).get hxi
    have lw := mem_waysOf_len (List.mem_of_getElem? hwi)
    rw [List.length_map] at lw
    have laT : (arcs Ts).length = Ts.length := by simp
    have SA := SS.trans SD
    refine ⟨rfl, _, rfl, _, rfl, _, rfl, l, q2, xs, Ts, wv, rfl, SA.seq hl, hx.same SA, hq2, by omega, l10, fun H2 r2 ys2 S5 nr2 hr2 hy2 => ?_⟩
    refine ⟨n, r2, ys2, _, rfl, .inl (.inl hr2), hy2, n6, Nat.le_trans arcsOf_le (by omega), fun H3 S6 => ⟨_, rfl, ite2 (fun c => ?_) (fun c => ?_)⟩⟩
    · have S56 := S5.trans S6
      have hd' := S56 _ _ hd
      refine ⟨_, rfl, acc, hd', mid_lt ?_, fun b o ne q => ?_, acc ++ [.ref q2], upd_same, ?_⟩
      · rw [st.1]
        exact Nat.le_trans (List.length_filter_le _ _) (by rw [List.length_take]; omega)
      · rw [upd_ne ne]
        exact S56 _ _ (kp b o ne q)
      · rw [filter_snoc hwi, if_pos c]
        exact ((st.same S56).snoc ⟨q2, rfl, S56.tup hq2⟩).updL hd'
    · have S56 := S5.trans S6
      refine ⟨fun b o ne q => S56 _ _ (kp b o ne q), acc, S56 _ _ hd, ?_⟩
      rw [filter_snoc hwi, if_neg c, List.append_nil]
      exact st.same S56
  · rintro G ⟨kp, acc, hd, st⟩
    rw [hy.1, List.take_length] at st
    refine hq _ D acc (fun b o q => kp b o (ne_of_none (SS _ _ q) hD) (SS _ _ q)) (SS.free hD) hd ?_
    rw [ordL_filter]
    have e2 : (fun w => decide (van n (arcsOf (arcs Ts) w) = [])) = fun w => @decide (Acy ([] ++ arcsOf (arcs Ts) w)) (Classical.propDecidable _) := funext fun w => by
      rw [List.nil_append]
      exact decide_eq_decide.mpr (van_iff (arcsOf_in hT))
    rw [← e2]
    exact st
end
end K3
namespace K3
open PySem PySem.Spec PyProof.Rows L2 He HX KG
section
variable {P : Program} {w : World} {K : PySem.W.Frag} {mg : Str → Option Value} {base : Heap}
def NN__law_orders_told : List PySem.Str := ["web", "due", "many"]
theorem sc__law_orders_told : FnScope NN__law_orders_told ["web", "due"] (defScope (top 46)) := ⟨rfl, rfl, rfl, by decide +kernel, rfl, by decide +kernel, by decide +kernel⟩
theorem ok__law_orders_told (h : HK K mg) (c__law_int : Cal P w K mg base 1 "_law_int" ["x"] (sp__law_int K)) (c__law_lots_are : Cal P w K mg base 3 "_law_lots_are" ["told", "due"] (sp__law_lots_are K)) (c_order_count : Cal P w K mg base 2 "order_count" ["web"] (sp_order_count K)) (c_orders : CalG P w K mg base 4 "orders" ["web"] (sp_orders K)) : Cal P w K mg base 8 "_law_orders_told" ["web", "due"] (sp__law_orders_told K) := by
  have F : FunD K "_law_orders_told" "_law_orders_told" (defArgs (top 46)) (defBody (top 46)) (defScope (top 46)) [] [] (ga K "_law_orders_told") (fdA K (ga K "_law_orders_told")) := h.says.funD 37
  have wf := h.wf
  have G : FnOk P w K mg base (L2.CX P w) (7 + 1) (ga K "_law_orders_told") (fdA K (ga K "_law_orders_told")) ["web", "due"] (sp__law_orders_told K) := okX F sc__law_orders_told (fun vs H Q E hs => by (repeat (obtain ⟨_, hs⟩ := hs)) <;> subst_vars <;> rfl) (fun cdv A outer s H vs Q E hr hs => ?_)
  · exact ⟨G, h.glo _, F.kp, F.bindsN (fun _ _ _ _ _ _ us hl => match us, hl with | [_, _], _ => rfl)⟩
  refine ⟨_, (pss_cons (ps_set (i := 2) sc__law_orders_told.nd rfl (by first | exact Or.inl rfl | exact Or.inr rfl) (pe_cal c_order_count hr passL (pa_cons (pv 0) pa_nil)))
      (pss_cons (ps_if (PW.pt (pw_or (pt_not (pt_val (pe_cal c__law_int hr passL (pa_cons (pv 2) pa_nil)))) (pw_or1 (pt_cmpR op_ne (pv 2) (pe_callB call_len_seq (by rfl) (h.free "len") (by decide +kernel) (pa_cons (pv 1) pa_nil)) (nomark _)))))
        (pss_one (ps_ret pe_bl))
        pss_nil)
      (pss_one (ps_ret (pe_cal c__law_lots_are hr passL (pa_cons (pe_listG (pgen_call c_orders.ok (hr.mono (by decide)) (by rfl) c_orders.at_ c_orders.kp c_orders.b .nil (pa_cons (pv 0) pa_nil)) passL (fun _ _ _ z => z.elim) (hr.mono (by decide)) (by rfl) (h.free "list") (by decide +kernel)) (pa_cons (pv 1) pa_nil))))))), ?_⟩
  obtain ⟨a, l, n, Ts, xs, rfl, hw, gw, hl, hx, hq⟩ := hs
  have lT := gw.len
  have laT : (arcs Ts).length = Ts.length := by simp
  refine ⟨_, rfl, a, n, Ts, rfl, hw, gw, fun H1 S1 => ?_⟩
  refine ⟨_, rfl, _, rfl, _, rfl, iteF ?_⟩
  refine ⟨_, rfl, _, rfl, l, _, rfl, .inl (S1.seq hl), rfl, _, rfl, iteNS (congrArg V.int (by rw [hx.1, ordL_len])) ?_⟩
  refine ⟨_, rfl, a, n, Ts, rfl, hw.same S1, gw, fun H2 ys S2 hy g hg => ?_⟩
  have u := same_upd (o := .lst ys) hg
  have S12 := (S1.trans S2).trans u
  refine ⟨_, rfl, g, l, ys, xs, _, rfl, .inl (.inl upd_same), S12.seq hl, hy.same u, hx.same S12, Nat.le_trans (ordL_le (by omega)) (by decide), fun d m => ?_, hq _ S12⟩
  rw [ordL_filter] at m
  have z := mem_waysOf_len (List.mem_filter.mp m).1
  rw [List.length_map] at z
  omega
end
end K3
namespace K3
open PySem PySem.Spec PyProof.Rows L2 He HX KG
section
variable {P : Program} {w : World} {K : PySem.W.Frag} {mg : Str → Option Value} {base : Heap}
def NN__law_pool : List PySem.Str := ["script", "pool", "cell"]
theorem sc__law_pool : FnScope NN__law_pool ["script"] (defScope (top 33)) := ⟨rfl, rfl, rfl, by decide +kernel, rfl, by decide +kernel, by decide +kernel⟩
theorem ok__law_pool (h : HK K mg) : Cal P w K mg base 1 "_law_pool" ["script"] (sp__law_pool K) := by
  have F : FunD K "_law_pool" "_law_pool" (defArgs (top 33)) (defBody (top 33)) (defScope (top 33)) [] [] (ga K "_law_pool") (fdA K (ga K "_law_pool")) := h.says.funD 24
  have wf := h.wf
  have G : FnOk P w K mg base (L2.CX P w) (0 + 1) (ga K "_law_pool") (fdA K (ga K "_law_pool")) ["script"] (sp__law_pool K) := okX F sc__law_pool (fun vs H Q E hs => by (repeat (obtain ⟨_, hs⟩ := hs)) <;> subst_vars <;> rfl) (fun cdv A outer s H vs Q E hr hs => ?_)
  · exact ⟨G, h.glo _, F.kp, F.bindsN (fun _ _ _ _ _ _ us hl => match us, hl with | [_], _ => rfl)⟩
  refine ⟨_, (pss_cons (ps_setLc (i := 1) (own := [("cell", 2)]) (by rfl) sc__law_pool.nd rfl rfl (sw_true rfl rfl rfl (by decide +kernel)) (pi_list (pe_slice sl_list (pv 0) po_none (po_some pe_int))) (blkOk_by (own := [("cell", 2)]) (N := NN__law_pool) (sc := defScope (top 33)) (by decide +kernel)) (fun _ _ _ _ _ => by exact (pg_name (i := 2) sc__law_pool.nd rfl (by first | exact Or.inl rfl | exact Or.inr rfl))) (fun _ _ _ _ _ => by exact pts_nil) (fun _ _ _ _ _ => by exact (pe_op op_modN (pe_callTy call_int1 (by rfl) (h.free "int") (by decide +kernel) (pa_cons (pv 2) pa_nil)) (pe_op op_pow pe_int pe_int))))
      (pss_cons (ps_expr (pe_bm PySem.F.plainAttrs_list PySem.F.slot_list_append PySem.F.type_list_append mt_append (pv 1) (pa_cons pe_int pa_nil)))
      (pss_cons (ps_expr (pe_bm PySem.F.plainAttrs_list PySem.F.slot_list_append PySem.F.type_list_append mt_append (pv 1) (pa_cons pe_int pa_nil)))
      (pss_one (ps_ret (pv 1)))))), ?_⟩
  obtain ⟨a, ns, rfl, ha, hq⟩ := hs
  have cut : ∃ ms : List Int, cutV (iL ns) none (some 63) = iL ms ∧ ms.length ≤ 63 := by
    refine ⟨ns.take 63, ?_, by rw [List.length_take]; omega⟩
    rw [show (63 : Int) = ((63 : Nat) : Int) from rfl, cut_to]
    unfold iL
    rw [List.map_take]
  obtain ⟨ms, em, lm⟩ := cut
  have cp60 : CPow 10 60 := ⟨by decide, by decide, by decide⟩
  have ne60 : (10 : Int) ^ (60 : Int).toNat ≠ 0 := by decide
  refine ⟨_, rfl, _, rfl, a, _, rfl, ha, fun p hp => ?_⟩
  rw [em]
  have S0 := same_upd (o := .lst (iL ms)) hp
  refine ⟨p, rfl, ⟨_, .inl (.inl upd_same)⟩, fun D hD => lc_list (K := K) (a := p) (xs := iL ms) (fun i H' => H' = upd (upd H p (.lst (iL ms))) D (.lst ((ms.take i).map fun c => V.int (c.fmod (10 ^ (60 : Int).toNat))))) rfl ?_ ?_ ?_⟩
  · rintro i H' _ rfl
    exact .inl (.inl (same_upd hD _ _ upd_same))
  · rintro i v H' hv rfl
    obtain ⟨c, hc, rfl⟩ := iL_get hv
    exact ⟨rfl, _, rfl, .inl ⟨_, rfl, _, _, rfl, rfl, cp60, _, _, rfl, rfl, ne60, lcs hc (by omega) rfl⟩⟩
  rintro H' rfl
  rw [len_iL, List.take_length]
  have S1 := S0.trans (same_upd (o := .lst (ms.map fun c => V.int (c.fmod (10 ^ (60 : Int).toNat)))) hD)
  have nD : H D = none := S0.free hD
  obtain ⟨cs, ecs, lcs'⟩ : ∃ cs : List Int, ms.map (fun c => V.int (c.fmod (10 ^ (60 : Int).toNat))) = cs.map V.int ∧ cs.length ≤ 63 := ⟨ms.map (fun c => c.fmod (10 ^ (60 : Int).toNat)), by rw [List.map_map]; rfl, by rw [List.length_map]; exact lm⟩
  rw [ecs] at S1 ⊢
  have hC : (upd (upd H p (.lst (iL ms))) D (.lst (cs.map V.int))) D = some (.lst (cs.map V.int)) := upd_same
  generalize upd (upd H p (.lst (iL ms))) D (.lst (cs.map V.int)) = H1 at S1 hC ⊢
  refine ⟨_, rfl, .inl ⟨rfl, _, SqL.of hC⟩, D, _, _, rfl, rfl, hC, small_lt (by rw [List.length_map]; omega), ?_⟩
  refine ⟨_, rfl, .inl ⟨rfl, _, SqL.of upd_same⟩, D, _, _, rfl, rfl, upd_same, small_lt (by rw [List.length_append, List.length_map]; simp; omega), ?_⟩
  refine ⟨_, rfl, hq _ D (fun b o q => ?_) nD ⟨cs ++ [314159265358979323846264338327950288419716939937510582097494, 271828182845904523536028747135266249775724709369995957496696], ?_, by rw [List.length_append]; simp; omega⟩⟩
  · rw [upd_ne (ne_of_none q nD), upd_ne (ne_of_none q nD)]
    exact S1 _ _ q
  · rw [upd_same, List.map_append, List.append_assoc]
    rfl
end
end K3
namespace K3
open PySem PySem.Spec PyProof.Rows L2 He HX KG
section
variable {P : Program} {w : World} {K : PySem.W.Frag} {mg : Str → Option Value} {base : Heap}
def NN__law_return : List PySem.Str := ["places", "arcs", "masks", "step", "arc"]
theorem sc__law_return : FnScope NN__law_return ["places", "arcs"] (defScope (top 44)) := ⟨rfl, rfl, rfl, by decide +kernel, rfl, by decide +kernel, by decide +kernel⟩
theorem ok__law_return (h : HK K mg) : Cal P w K mg base 1 "_law_return" ["places", "arcs"] (sp__law_return K) := by
  have F : FunD K "_law_return" "_law_return" (defArgs (top 44)) (defBody (top 44)) (defScope (top 44)) [] [] (ga K "_law_return") (fdA K (ga K "_law_return")) := h.says.funD 35
  have wf := h.wf
  have G : FnOk P w K mg base (L2.CX P w) (0 + 1) (ga K "_law_return") (fdA K (ga K "_law_return")) ["places", "arcs"] (sp__law_return K) := okX F sc__law_return (fun vs H Q E hs => by (repeat (obtain ⟨_, hs⟩ := hs)) <;> subst_vars <;> rfl) (fun cdv A outer s H vs Q E hr hs => ?_)
  · exact ⟨G, h.glo _, F.kp, F.bindsN (fun _ _ _ _ _ _ us hl => match us, hl with | [_, _], _ => rfl)⟩
  refine ⟨_, (pss_cons (ps_set (i := 2) sc__law_return.nd rfl (by first | exact Or.inl rfl | exact Or.inr rfl) (pe_lst (pa_cons pe_int (pa_cons pe_int (pa_cons pe_int (pa_cons pe_int (pa_cons pe_int (pa_cons pe_int pa_nil))))))))
      (pss_cons (ps_for (passes_of rfl) (by rfl) (pi_range1 (by rfl) (h.free "range") (pa_cons (pv 0) pa_nil)) (pg_name (i := 3) sc__law_return.nd rfl (by first | exact Or.inl rfl | exact Or.inr rfl))
        (pss_one (ps_for (passes_of rfl) (by rfl) (pi_list (pv 1)) (pg_name (i := 4) sc__law_return.nd rfl (by first | exact Or.inl rfl | exact Or.inr rfl))
          (pss_one (ps_asg (pe_op op_or (pe_ix ix_list (pv 2) (pe_ix ix_tup (pv 4) pe_int (fun _ _ => rfl)) (fun _ _ => rfl)) (pe_ix ix_list (pv 2) (pe_ix ix_tup (pv 4) pe_int (fun _ _ => rfl)) (fun _ _ => rfl))) (pg_sub (pv 2) (pe_ix ix_tup (pv 4) pe_int (fun _ _ => rfl)) set_list))))))
      (pss_cons (ps_for (passes_of rfl) (by rfl) (pi_list (pv 1)) (pg_name (i := 4) sc__law_return.nd rfl (by first | exact Or.inl rfl | exact Or.inr rfl))
        (pss_one (ps_if (pt_cmpR op_ne (pe_op op_and (pe_ix ix_list (pv 2) (pe_ix ix_tup (pv 4) pe_int (fun _ _ => rfl)) (fun _ _ => rfl)) (pe_ix ix_list (pv 2) (pe_ix ix_tup (pv 4) pe_int (fun _ _ => rfl)) (fun _ _ => rfl))) (pe_ix ix_list (pv 2) (pe_ix ix_tup (pv 4) pe_int (fun _ _ => rfl)) (fun _ _ => rfl)) (nomark _))
          (pss_one (ps_ret pe_bl))
          pss_nil)))
      (pss_one (ps_ret pe_bl))))), ?_⟩
  obtain ⟨n, l, xs, A, rfl, hl, hx, hA, n6, l20, hq⟩ := hs
  have lx := arows_len hx
  refine ⟨small_size (show 6 ≤ 1000 by decide), fun m hm => ?_⟩
  have S0 := same_upd (o := .lst [.int 1, .int 2, .int 4, .int 8, .int 16, .int 32]) hm
  refine ⟨_, rfl, n, rfl, by omega, by omega, for_range (n := n) (fun i σ H' => Same H H' ∧ ∃ (r3 r4 : Option V), σ = [some (nI n), some (.ref l), some (.ref m), r3, r4] ∧ H' m = some (.lst (nL (retN A i ms6)))) ?_ ?_ ?_⟩
  · exact ⟨S0, _, _, rfl, upd_same⟩
  · rintro i σ H' hi ⟨S, r3, r4, rfl, h1⟩
    have l6 := retN_len (A := A) i
    rw [retN_succ]
    generalize retN A i ms6 = W at h1 l6 ⊢
    have lf : ∀ j, ((A.take j).foldl retS W).length = 6 := fun j => by rw [fold_len]; exact l6
    refine ⟨_, rfl, l, rfl, ⟨_, S.seq hl⟩, for_list (K := K) (a := l) (xs := xs) (fun j σ H' => Same H H' ∧ ∃ (r3 r4 : Option V), σ = [some (nI n), some (.ref l), some (.ref m), r3, r4] ∧ H' m = some (.lst (nL ((A.take j).foldl retS W)))) ?_ ?_ ?_ ?_⟩
    · exact ⟨S, _, _, rfl, h1⟩
    · rintro j σ H' _ ⟨S, _⟩
      exact S.seq hl
    · rintro j x σ H' hxj ⟨S, r3, r4, rfl, h1⟩
      obtain ⟨a, q, ha, rfl, hq'⟩ := arc_get (hx.same S) hxj
      have ab := hA a (List.mem_of_getElem? ha)
      have lj := lf j
      rw [take_snoc ha, List.foldl_append]
      generalize (A.take j).foldl retS W = V1 at h1 lj ⊢
      have g1 : V1[a.1]? = some (V1.getD a.1 0) := by rw [List.getD_eq_getElem?_getD, List.getElem?_eq_getElem (by omega)]; rfl
      have g2 : V1[a.2]? = some (V1.getD a.2 0) := by rw [List.getD_eq_getElem?_getD, List.getElem?_eq_getElem (by omega)]; rfl
      refine ⟨_, rfl, _, rfl, q, _, _, _, rfl, rfl, hq', atI_nat (j := 0) rfl, m, _, _, _, rfl, rfl, .inl (.inl h1), nL_atI g1, _, rfl, _, rfl, q, _, _, _, rfl, rfl, hq', atI_nat (j := 1) rfl, m, _, _, _, rfl, rfl, .inl (.inl h1), nL_atI g2, _, _, rfl, rfl, ?_⟩
      refine ⟨_, rfl, _, rfl, q, _, _, _, rfl, rfl, hq', atI_nat (j := 0) rfl, m, _, _, a.1, rfl, rfl, h1, ixN_nat (by rw [len_nL]; omega), ?_⟩
      refine ⟨fun b o q0 => ?_, _, _, rfl, ?_⟩
      · rw [upd_ne (ne_of_none q0 hm)]
        exact S _ _ q0
      · rw [upd_same]
        show some (HO.lst ((nL V1).set a.1 (V.int (Builtin.bitOr _ _)))) = some (HO.lst (nL (retS V1 a)))
        rw [bit_or]
        unfold retS nL
        rw [List.map_set]
    · rintro σ H' ⟨S, r3, r4, rfl, h1⟩
      rw [lx, List.take_length] at h1
      exact ⟨S, _, _, rfl, h1⟩
  · rintro σ H' ⟨S, r3, r4, rfl, h1⟩
    have l6 := retN_len (A := A) n
    have cnd := fun a m => ret_cond hA n6 (a := a) m
    generalize retN A n ms6 = W at h1 l6 cnd ⊢
    refine ⟨_, rfl, l, rfl, ⟨_, S.seq hl⟩, for_list (K := K) (a := l) (xs := xs) (fun j σ H2 => H2 = H' ∧ ∃ (r3 r4 : Option V), σ = [some (nI n), some (.ref l), some (.ref m), r3, r4] ∧ ∀ a ∈ A.take j, Rch A a.2 a.1) ?_ ?_ ?_ ?_⟩
    · exact ⟨rfl, _, _, rfl, fun a m => by simp at m⟩
    · rintro j σ H2 _ ⟨rfl, _⟩
      exact S.seq hl
    · rintro j x σ H2 hxj ⟨rfl, r3, r4, rfl, h3⟩
      obtain ⟨a, q, ha, rfl, hq'⟩ := arc_get (hx.same S) hxj
      have ma := List.mem_of_getElem? ha
      have ab := hA a ma
      have g1 : W[a.1]? = some (W.getD a.1 0) := by rw [List.getD_eq_getElem?_getD, List.getElem?_eq_getElem (by omega)]; rfl
      have g2 : W[a.2]? = some (W.getD a.2 0) := by rw [List.getD_eq_getElem?_getD, List.getElem?_eq_getElem (by omega)]; rfl
      refine ⟨_, rfl, _, rfl, q, _, _, _, rfl, rfl, hq', atI_nat (j := 1) rfl, m, _, _, _, rfl, rfl, .inl (.inl h1), nL_atI g2, _, rfl, _, rfl, q, _, _, _, rfl, rfl, hq', atI_nat (j := 0) rfl, m, _, _, _, rfl, rfl, .inl (.inl h1), nL_atI g1, _, _, rfl, rfl, _, rfl, _, rfl, q, _, _, _, rfl, rfl, hq', atI_nat (j := 0) rfl, m, _, _, _, rfl, rfl, .inl (.inl h1), nL_atI g1, rfl, _, rfl, ?_⟩
      have e : (!decide (V.int (Builtin.bitAnd (W.getD a.2 0 : Nat) (W.getD a.1 0 : Nat)) = nI (W.getD a.1 0))) = !decide (W.getD a.2 0 &&& W.getD a.1 0 = W.getD a.1 0) := by rw [bit_and, nat_eqb]
      refine ite2 (fun c => ?_) (fun c => ?_)
      · have c' := (show (!decide (V.int (Builtin.bitAnd (W.getD a.2 0 : Nat) (W.getD a.1 0 : Nat)) = nI (W.getD a.1 0))) = true from c)
        rw [e] at c'
        have nb : ¬ KG.Back A := fun z => by
          have := (cnd a ma).mpr (z a ma)
          rw [decide_eq_true this] at c'
          cases c'
        have := hq _ S
        rw [@decide_eq_false _ (Classical.propDecidable _) nb] at this
        exact this
      · have c' := (show ¬ (!decide (V.int (Builtin.bitAnd (W.getD a.2 0 : Nat) (W.getD a.1 0 : Nat)) = nI (W.getD a.1 0))) = true from c)
        rw [e] at c'
        refine ⟨rfl, _, _, rfl, fun b mb => ?_⟩
        rw [take_snoc ha] at mb
        rcases List.mem_append.mp mb with mb | mb
        · exact h3 b mb
        · rw [List.mem_singleton.mp mb]
          exact (cnd a ma).mp (by simpa using c')
    · rintro σ H2 ⟨rfl, r3, r4, rfl, h3⟩
      rw [lx, List.take_length] at h3
      have := hq _ S
      rw [@decide_eq_true (KG.Back A) (Classical.propDecidable _) h3] at this
      exact this
end
end K3
namespace K3
open PySem PySem.Spec PyProof.Rows L2 He HX KG
section
variable {P : Program} {w : World} {K : PySem.W.Frag} {mg : Str → Option Value} {base : Heap}
def NN__law_row_is : List PySem.Str := ["x", "due", "k"]
theorem sc__law_row_is : FnScope NN__law_row_is ["x", "due"] (defScope (top 36)) := ⟨rfl, rfl, rfl, by decide +kernel, rfl, by decide +kernel, by decide +kernel⟩
theorem ok__law_row_is (h : HK K mg) (c__law_int : Cal P w K mg base 1 "_law_int" ["x"] (sp__law_int K)) : Cal P w K mg base 2 "_law_row_is" ["x", "due"] (sp__law_row_is K) := by
  have F : FunD K "_law_row_is" "_law_row_is" (defArgs (top 36)) (defBody (top 36)) (defScope (top 36)) [] [] (ga K "_law_row_is") (fdA K (ga K "_law_row_is")) := h.says.funD 27
  have wf := h.wf
  have G : FnOk P w K mg base (L2.CX P w) (1 + 1) (ga K "_law_row_is") (fdA K (ga K "_law_row_is")) ["x", "due"] (sp__law_row_is K) := okX F sc__law_row_is (fun vs H Q E hs => by (repeat (obtain ⟨_, hs⟩ := hs)) <;> subst_vars <;> rfl) (fun cdv A outer s H vs Q E hr hs => ?_)
  · exact ⟨G, h.glo _, F.kp, F.bindsN (fun _ _ _ _ _ _ us hl => match us, hl with | [_, _], _ => rfl)⟩
  refine ⟨_, (pss_cons (ps_if (PW.pt (pw_or (pt_not (pt_val (pe_callB call_isi (by rfl) (h.free "isinstance") (by decide +kernel) (pa_cons (pv 0) (pa_cons (pe_bltn (v := .ty "tuple") (by rfl) (h.free "tuple") (by decide +kernel) rfl) pa_nil))))) (pw_or1 (pt_cmpR op_ne (pe_callB call_len_seq (by rfl) (h.free "len") (by decide +kernel) (pa_cons (pv 0) pa_nil)) (pe_callB call_len_seq (by rfl) (h.free "len") (by decide +kernel) (pa_cons (pv 1) pa_nil)) (nomark _)))))
        (pss_one (ps_ret pe_bl))
        pss_nil)
      (pss_cons (ps_for (passes_of rfl) (by rfl) (pi_range1 (by rfl) (h.free "range") (pa_cons (pe_callB call_len_seq (by rfl) (h.free "len") (by decide +kernel) (pa_cons (pv 1) pa_nil)) pa_nil)) (pg_name (i := 2) sc__law_row_is.nd rfl (by first | exact Or.inl rfl | exact Or.inr rfl))
        (pss_one (ps_if (PW.pt (pw_or (pt_not (pt_val (pe_cal c__law_int hr passL (pa_cons (pe_ix ix_tup (pv 0) (pv 2) (fun _ _ => rfl)) pa_nil)))) (pw_or1 (pt_cmpR op_ne (pe_ix ix_tup (pv 0) (pv 2) (fun _ _ => rfl)) (pe_ix ix_tup (pv 1) (pv 2) (fun _ _ => rfl)) (nomark _)))))
          (pss_one (ps_ret pe_bl))
          pss_nil)))
      (pss_one (ps_ret pe_bl)))), ?_⟩
  obtain ⟨a, b, ns, rfl, ha, hb, hn, hq⟩ := hs
  have hl := len_iL ns
  refine ⟨_, rfl, _, _, _, _, _, rfl, .ty _, tyx_tup ha, kit_ty (r := true) (by decide +kernel), _, rfl, iteF ?_⟩
  refine ⟨_, rfl, a, _, rfl, .inr ha, _, rfl, b, _, rfl, .inr hb, rfl, _, rfl, iteNS rfl ?_⟩
  refine ⟨_, rfl, b, _, rfl, .inr hb, _, rfl, by omega, by omega, for_range (n := (iL ns).length) (fun i σ H' => H' = H ∧ ∃ r, σ = [some (.ref a), some (.ref b), r]) ⟨rfl, _, rfl⟩ ?_ ?_⟩
  · rintro i σ H' hi ⟨rfl, r, rfl⟩
    obtain ⟨c, hc⟩ : ∃ c, ns[i]? = some c := ⟨ns[i]'(by omega), List.getElem?_eq_getElem (by omega)⟩
    have hat : atI (iL ns) (0 + (i : Int)) = some (.int c) := by
      rw [Int.zero_add]
      exact iL_atI hc
    refine ⟨_, rfl, _, rfl, a, _, _, _, rfl, rfl, ha, hat, _, rfl, _, rfl, iteF ?_⟩
    exact ⟨_, rfl, _, rfl, a, _, _, _, rfl, rfl, ha, hat, _, rfl, _, rfl, b, _, _, _, rfl, rfl, hb, hat, rfl, _, rfl, iteNS rfl ⟨rfl, _, rfl⟩⟩
  · rintro σ H' ⟨rfl, r, rfl⟩
    exact hq
end
end K3
namespace K3
open PySem PySem.Spec PyProof.Rows L2 He HX KG
section
variable {P : Program} {w : World} {K : PySem.W.Frag} {mg : Str → Option Value} {base : Heap}
def NN__law_try : List PySem.Str := ["what", "web", "e"]
theorem sc__law_try : FnScope NN__law_try ["what", "web"] (defScope (top 48)) := ⟨rfl, rfl, rfl, by decide +kernel, rfl, by decide +kernel, by decide +kernel⟩
theorem ok__law_try (h : HK K mg) (c_turn_count : Cal P w K mg base 10 "turn_count" ["web"] (sp_turn_count K)) (c_turns : CalG P w K mg base 10 "turns" ["web"] (sp_turns K)) : Cal P w K mg base 14 "_law_try" ["what", "web"] (sp__law_try K) := by
  have F : FunD K "_law_try" "_law_try" (defArgs (top 48)) (defBody (top 48)) (defScope (top 48)) [] [] (ga K "_law_try") (fdA K (ga K "_law_try")) := h.says.funD 39
  have wf := h.wf
  have G : FnOk P w K mg base (L2.CX P w) (13 + 1) (ga K "_law_try") (fdA K (ga K "_law_try")) ["what", "web"] (sp__law_try K) := okX F sc__law_try (fun vs H Q E hs => by (repeat (obtain ⟨_, hs⟩ := hs)) <;> subst_vars <;> rfl) (fun cdv A outer s H vs Q E hr hs => ?_)
  · exact ⟨G, h.glo _, F.kp, F.bindsN (fun _ _ _ _ _ _ us hl => match us, hl with | [_, _], _ => rfl)⟩
  refine ⟨_, (pss_one (ps_tryT (i := 2) rfl rfl rfl sc__law_try.nd rfl rfl ⟨rfl, by decide, .inl (h.glo "LatticeError")⟩ takes0 (by exact fun W pn xe tk _ => (pss_cons (ps_if (pt_cmpR op_eq (pv 0) pe_int (nomark _))
          (pss_one (ps_ret (pe_tup (pa_cons pe_str (pa_cons (pe_listG (pgen_call c_turns.ok (hr.mono (by decide)) (by rfl) c_turns.at_ c_turns.kp c_turns.b .nil (pa_cons (pv 1) pa_nil)) (show Passes (L2.CX P w) _ (LooseK K W 3) from passLoose K tk) (noStop_T h) (hr.mono (by decide)) (by rfl) (h.free "list") (by decide +kernel)) pa_nil)))))
          pss_nil)
        (pss_one (ps_ret (pe_tup (pa_cons pe_str (pa_cons (pe_cal c_turn_count hr (show Passes (L2.CX P w) _ (EL W 3) from passLen tk) (pa_cons (pv 1) pa_nil)) pa_nil)))))))
      (by exact fun a pn => (pss_cons (ps_if (pt_val (pe_callB (call_isXK K rfl) (by rfl) (h.free "isinstance") (by decide +kernel) (pa_cons (pv 2) (pa_cons (pe_glob (v := .ref (ga K "Loose")) (by rfl) (h.glo "Loose") rfl) pa_nil))))
          (pss_one (ps_ret (pe_tup (pa_cons pe_str (pa_cons (pe_efK K rfl (pv 2)) pa_nil)))))
          pss_nil)
        (pss_one (ps_ret (pe_tup (pa_cons pe_str (pa_cons pe_int pa_nil))))))))), ?_⟩
  obtain ⟨m, a, n, Ts, rfl, hw, gw, nj, hq⟩ := hs
  refine ⟨_, rfl, rfl, _, rfl, ite2 (fun c => ?_) (fun c => ?_)⟩
  · refine ⟨_, rfl, a, n, Ts, rfl, hw, gw, (fun jn => absurd jn nj), fun _ H' dx q S hd hl => ⟨fun σ hσ => ⟨true, h.exmL "Loose" (by decide +kernel), fun _ e ne => ?_, fun z => nomatch z⟩, rfl⟩⟩
    have hs2 : (σ.set 2 (some (V.ref e)))[2]? = some (some (V.ref e)) := by simp [hσ]
    have hE : ExAt (upd H' e (exF e (.ref (ga K "Loose")) (some dx))) e (ga K "Loose") (some dx) := exAt_exF upd_same
    have u := same_upd (o := exF e (.ref (ga K "Loose")) (some dx)) ne
    have hX : XdAt (upd H' e (exF e (.ref (ga K "Loose")) (some dx))) dx [("lot", .ref q)] := .inr (u _ _ hd)
    refine ⟨_, hs2, e, ga K "Loose", some dx, [("lot", .ref q)], _, _, _, rfl, hE, (fun dd z => by cases z; exact hX), (h.ef "Loose").erc, (fun u r => r), h.kitE "Loose" "Loose" (by decide +kernel) (by decide +kernel), _, rfl, ite2 (fun _ => ?_) (fun c => absurd (decide_eq_true rfl) c)⟩
    refine ⟨_, hs2, e, ga K "Loose", dx, [("lot", .ref q)], .ref q, rfl, hE, hX, (h.ef "Loose").erc, h.fld "Loose" "lot", rfl, small_size (show 2 ≤ 1000 by decide), fun p hp => ?_⟩
    have u2 := same_upd (o := .tup [.str "loose", .ref q]) hp
    exact hq _ p q ((S.trans u).trans u2) (.inl (.inl upd_same)) ((u.trans u2).tup hl)
  · refine ⟨_, rfl, a, n, Ts, rfl, hw, gw, (fun jn => absurd jn nj), fun _ H' dx q S hd hl σ hσ => ⟨true, h.exmL "Loose" (by decide +kernel), fun _ e ne => ?_, fun z => nomatch z⟩⟩
    have hs2 : (σ.set 2 (some (V.ref e)))[2]? = some (some (V.ref e)) := by simp [hσ]
    have hE : ExAt (upd H' e (exF e (.ref (ga K "Loose")) (some dx))) e (ga K "Loose") (some dx) := exAt_exF upd_same
    have u := same_upd (o := exF e (.ref (ga K "Loose")) (some dx)) ne
    have hX : XdAt (upd H' e (exF e (.ref (ga K "Loose")) (some dx))) dx [("lot", .ref q)] := .inr (u _ _ hd)
    refine ⟨_, hs2, e, ga K "Loose", some dx, [("lot", .ref q)], _, _, _, rfl, hE, (fun dd z => by cases z; exact hX), (h.ef "Loose").erc, (fun u r => r), h.kitE "Loose" "Loose" (by decide +kernel) (by decide +kernel), _, rfl, ite2 (fun _ => ?_) (fun c => absurd (decide_eq_true rfl) c)⟩
    refine ⟨_, hs2, e, ga K "Loose", dx, [("lot", .ref q)], .ref q, rfl, hE, hX, (h.ef "Loose").erc, h.fld "Loose" "lot", rfl, small_size (show 2 ≤ 1000 by decide), fun p hp => ?_⟩
    have u2 := same_upd (o := .tup [.str "loose", .ref q]) hp
    exact hq _ p q ((S.trans u).trans u2) (.inl (.inl upd_same)) ((u.trans u2).tup hl)
end
end K3
namespace K3
open PySem PySem.Spec PyProof.Rows L2 He HX KG
section
variable {P : Program} {w : World} {K : PySem.W.Frag} {mg : Str → Option Value} {base : Heap}
def NN__law_turn_list : List PySem.Str := ["places", "ties", "menus", "k", "rest", "ways", "way"]
theorem sc__law_turn_list : FnScope NN__law_turn_list ["places", "ties"] (defScope (top 45)) := ⟨rfl, rfl, rfl, by decide +kernel, rfl, by decide +kernel, by decide +kernel⟩
theorem ok__law_turn_list (h : HK K mg) (c__law_arcs : Cal P w K mg base 1 "_law_arcs" ["ties", "way"] (sp__law_arcs K)) (c__law_marks : Cal P w K mg base 1 "_law_marks" ["places", "ties"] (sp__law_marks K)) (c__law_return : Cal P w K mg base 1 "_law_return" ["places", "arcs"] (sp__law_return K)) (c__law_ways : Cal P w K mg base 1 "_law_ways" ["menus"] (sp__law_ways K)) : Cal P w K mg base 2 "_law_turn_list" ["places", "ties"] (sp__law_turn_list K) := by
  have F : FunD K "_law_turn_list" "_law_turn_list" (defArgs (top 45)) (defBody (top 45)) (defScope (top 45)) [] [] (ga K "_law_turn_list") (fdA K (ga K "_law_turn_list")) := h.says.funD 36
  have wf := h.wf
  have G : FnOk P w K mg base (L2.CX P w) (1 + 1) (ga K "_law_turn_list") (fdA K (ga K "_law_turn_list")) ["places", "ties"] (sp__law_turn_list K) := okX F sc__law_turn_list (fun vs H Q E hs => by (repeat (obtain ⟨_, hs⟩ := hs)) <;> subst_vars <;> rfl) (fun cdv A outer s H vs Q E hr hs => ?_)
  · exact ⟨G, h.glo _, F.kp, F.bindsN (fun _ _ _ _ _ _ us hl => match us, hl with | [_, _], _ => rfl)⟩
  refine ⟨_, (pss_cons (ps_set (i := 2) sc__law_turn_list.nd rfl (by first | exact Or.inl rfl | exact Or.inr rfl) (pe_lst pa_nil))
      (pss_cons (ps_for (passes_of rfl) (by rfl) (pi_range1 (by rfl) (h.free "range") (pa_cons (pe_callB call_len_seq (by rfl) (h.free "len") (by decide +kernel) (pa_cons (pv 1) pa_nil)) pa_nil)) (pg_name (i := 3) sc__law_turn_list.nd rfl (by first | exact Or.inl rfl | exact Or.inr rfl))
        (pss_cons (ps_set (i := 4) sc__law_turn_list.nd rfl (by first | exact Or.inl rfl | exact Or.inr rfl) (pe_op op_cat (pe_slice sl_list (pv 1) po_none (po_some (pv 3))) (pe_slice sl_list (pv 1) (po_some (pe_op op_add (pv 3) pe_int)) po_none)))
        (pss_one (ps_if (pt_cmpR (op_eqD hr.units) (pe_cal c__law_marks hr passL (pa_cons (pv 0) (pa_cons (pv 4) pa_nil))) (pe_op op_rep (pe_lst (pa_cons pe_int pa_nil)) (pv 0)) (nomark _))
          (pss_one (ps_expr (pe_bm PySem.F.plainAttrs_list PySem.F.slot_list_append PySem.F.type_list_append mt_append (pv 2) (pa_cons (pe_tup (pa_cons (pe_un un_neg pe_int) (pa_cons pe_int pa_nil))) pa_nil))))
          (pss_one (ps_expr (pe_bm PySem.F.plainAttrs_list PySem.F.slot_list_append PySem.F.type_list_append mt_append (pv 2) (pa_cons (pe_tup (pa_cons pe_int pa_nil)) pa_nil))))))))
      (pss_cons (ps_set (i := 5) sc__law_turn_list.nd rfl (by first | exact Or.inl rfl | exact Or.inr rfl) (pe_cal c__law_ways hr passL (pa_cons (pv 2) pa_nil)))
      (pss_one (ps_ret (pe_lc (own := [("way", 6)]) (by rfl) sc__law_turn_list.nd (pi_list (pv 5)) (blkOk_by (own := [("way", 6)]) (N := NN__law_turn_list) (sc := defScope (top 45)) (by decide +kernel)) (fun _ _ _ _ _ => by exact (pg_name (i := 6) sc__law_turn_list.nd rfl (by first | exact Or.inl rfl | exact Or.inr rfl))) (fun _ _ _ _ _ => by exact (pts_one (pt_val (pe_cal c__law_return hr passL (pa_cons (pv 0) (pa_cons (pe_cal c__law_arcs hr passL (pa_cons (pv 1) (pa_cons (pv 6) pa_nil))) pa_nil)))))) (fun _ _ _ _ _ => by exact (pv 6)))))))), ?_⟩
  obtain ⟨n, l, xs, Ts, rfl, hl, hx, gw, hq⟩ := hs
  have n6 := gw.n6
  have n1 := gw.n1
  have l10 := gw.len
  have hT := gw.ok.inn
  have lx := rows_len hx
  have laT : (arcs Ts).length = Ts.length := by simp
  have mle : ∀ m ∈ menusL n (arcs Ts), m.length ≤ 2 := fun m h => by
    rcases menusL_mem h with rfl | rfl <;> decide
  refine ⟨size0, fun mn hmn => ?_⟩
  have S0 := same_upd (o := .lst []) hmn
  refine ⟨_, rfl, l, _, rfl, .inl (S0.seq hl), _, rfl, by omega, by omega, for_range (n := xs.length) (fun i σ H' => Same H H' ∧ ∃ (ys : List V) (r3 r4 r5 r6 : Option V), σ = [some (nI n), some (.ref l), some (.ref mn), r3, r4, r5, r6] ∧ H' mn = some (.lst ys) ∧ RowsAt K H' ys ((menusL n (arcs Ts)).take i)) ?_ ?_ ?_⟩
  · exact ⟨S0, [], _, _, _, _, rfl, upd_same, .nil⟩
  · rintro i σ H' hi ⟨S, ys, r3, r4, r5, r6, rfl, h1, h2⟩
    rw [show (0 : Int) + (i : Nat) = (i : Int) from Int.zero_add _]
    have hi' : i < Ts.length := by omega
    have em := menusL_at (n := n) (T := arcs Ts) (i := i) (by omega)
    have ly := h2.1
    rw [List.length_take] at ly
    refine ⟨_, rfl, _, rfl, _, rfl, l, _, rfl, S.seq hl, fun p hp => ?_⟩
    rw [cut_to]
    have u1 := same_upd (o := .lst (xs.take i)) hp
    refine ⟨_, rfl, _, rfl, _, _, rfl, rfl, _, rfl, l, _, rfl, (S.trans u1).seq hl, fun p2 hp2 => ?_⟩
    rw [show ((i : Int) + 1) = ((i + 1 : Nat) : Int) from rfl, cut_from]
    have u2 := same_upd (o := .lst (xs.drop (i + 1))) hp2
    refine ⟨p, p2, _, _, rfl, rfl, u2 _ _ upd_same, upd_same, small_size (by rw [List.length_take, List.length_drop]; omega), fun r hr => ?_⟩
    have u3 := same_upd (o := .lst (xs.take i ++ xs.drop (i + 1))) hr
    have U := (u1.trans u2).trans u3
    have hrr : (upd (upd (upd H' p (.lst (xs.take i))) p2 (.lst (xs.drop (i + 1)))) r (.lst (xs.take i ++ xs.drop (i + 1)))) r = some (.lst (xs.take i ++ xs.drop (i + 1))) := upd_same
    generalize upd (upd (upd H' p (.lst (xs.take i))) p2 (.lst (xs.drop (i + 1)))) r (.lst (xs.take i ++ xs.drop (i + 1))) = HA at U hrr ⊢
    have SA := S.trans U
    have hE : KG.In n (arcs (Ts.eraseIdx i)) := fun a m => by
      obtain ⟨t, mt, rfl⟩ := List.mem_map.mp m
      have := gw.ok t (List.mem_of_mem_eraseIdx mt)
      exact ⟨this.1, this.2.1⟩
    have eE : arcs (Ts.eraseIdx i) = (arcs Ts).eraseIdx i := by
      unfold arcs
      rw [List.eraseIdx_eq_take_drop_succ, List.eraseIdx_eq_take_drop_succ, List.map_append, List.map_take, List.map_drop]
    refine ⟨_, rfl, _, rfl, n, r, _, Ts.eraseIdx i, rfl, .inl (.inl hrr), (hx.same SA).erase i, hE, n6, fun HB mk ms S5 nmk hmk hM h0 => ?_⟩
    rw [eE] at hM
    refine ⟨small_size (show 1 ≤ 1000 by decide), fun z hz => ?_⟩
    have u6 := same_upd (o := .lst [.int 0]) hz
    refine ⟨_, rfl, z, _, _, rfl, rfl, upd_same, by omega, by omega, mid_le (by simp; omega), fun y hy => ?_⟩
    have e1 : (List.replicate (n : Int).toNat [V.int 0]).flatten = iL (List.replicate n 0) := by
      rw [Int.toNat_natCast]
      unfold iL
      rw [List.map_replicate]
      exact rep_flat _ n
    rw [e1]
    have u7 := same_upd (o := .lst (iL (List.replicate n 0))) hy
    have hmk7 := (u6.trans u7) _ _ hmk
    rw [nL_int] at hmk7
    refine ⟨.list (dI (ms.map fun (n : Nat) => (n : Int))), .list (dI (List.replicate n 0)), dp_ints (.inl (.inl hmk7)), dp_ints (.inl (.inl upd_same)), sh_ints _, sh_ints _, _, rfl, ?_⟩
    rw [eqvL_ints]
    have key : (ms.map (fun (n : Nat) => (n : Int)) = List.replicate n 0) ↔ ∀ v, v < n → Con ((arcs Ts).eraseIdx i) 0 v := by
      rw [← marks_all hM (h0 (by omega))]
      constructor
      · intro e
        have := congrArg (List.map Int.toNat) e
        rw [List.map_map, List.map_replicate] at this
        have e2 : ms.map (Int.toNat ∘ fun (n : Nat) => (n : Int)) = ms := by
          conv => rhs; rw [← List.map_id ms]
          exact List.map_congr_left fun x _ => by simp
        rw [e2] at this
        exact this
      · intro e
        rw [e, List.map_replicate]
        rfl
    have U2 := (S5.trans u6).trans u7
    have S8 := SA.trans U2
    have h18 := (U.trans U2) _ _ h1
    have h28 := h2.same (U.trans U2)
    have hidle : i ∈ idleL n (arcs Ts) ↔ ¬ ∀ v, v < n → Con ((arcs Ts).eraseIdx i) 0 v := by
      unfold idleL
      rw [List.mem_filter, List.mem_range]
      simp [hi', laT]
    generalize upd (upd HB z (.lst [.int 0])) y (.lst (iL (List.replicate n 0))) = HC at S8 h18 h28 ⊢
    have hnm : H mn = none := hmn
    refine ite2 (fun c => ?_) (fun c => ?_)
    · rw [decide_eq_true_eq, key] at c
      rw [if_neg (fun z => hidle.mp z c)] at em
      refine ⟨_, rfl, .inl ⟨rfl, _, SqL.of h18⟩, _, rfl, small_size (show 2 ≤ 1000 by decide), fun q hq' => ?_⟩
      have u9 := same_upd (o := .tup [.int (-1), .int 1]) hq'
      have g9 := u9 _ _ h18
      refine ⟨mn, _, _, rfl, rfl, g9, small_lt (by omega), fun b o q0 => ?_, ys ++ [.ref q], _, _, _, _, rfl, upd_same, ?_⟩
      · rw [upd_ne (ne_of_none q0 hnm)]
        exact u9 _ _ (S8 _ _ q0)
      · rw [take_snoc em]
        exact ((h28.same u9).snoc (d := [-1, 1]) ⟨q, rfl, .inl (.inl upd_same)⟩).updL g9
    · rw [decide_eq_true_eq, key] at c
      rw [if_pos (hidle.mpr c)] at em
      refine ⟨_, rfl, .inl ⟨rfl, _, SqL.of h18⟩, small_size (show 1 ≤ 1000 by decide), fun q hq' => ?_⟩
      have u9 := same_upd (o := .tup [.int 0]) hq'
      have g9 := u9 _ _ h18
      refine ⟨mn, _, _, rfl, rfl, g9, small_lt (by omega), fun b o q0 => ?_, ys ++ [.ref q], _, _, _, _, rfl, upd_same, ?_⟩
      · rw [upd_ne (ne_of_none q0 hnm)]
        exact u9 _ _ (S8 _ _ q0)
      · rw [take_snoc em]
        exact ((h28.same u9).snoc (d := [0]) ⟨q, rfl, .inl (.inl upd_same)⟩).updL g9
  · rintro σ H' ⟨S, ys, r3, r4, r5, r6, rfl, h1, h2⟩
    rw [lx, List.take_of_length_le (by rw [menusL_len]; omega)] at h2
    refine ⟨_, rfl, mn, ys, menusL n (arcs Ts), rfl, .inl (.inl h1), h2, by rw [menusL_len]; omega, mle, fun H1 g ys2 S4 hg hy => ?_⟩
    have SS := S.trans S4
    have big : (waysOf (menusL n (arcs Ts))).length ≤ 1024 := by
      rw [← growW_ways]
      exact growW_le (by rw [menusL_len]; omega) mle
    refine ⟨_, rfl, g, rfl, ⟨_, .inl (.inl hg)⟩, fun D hD => lc_it (walk_list (K := K) (a := g) (xs := ys2)) (fun i G => (∀ b o, b ≠ D → H1 b = some o → G b = some o) ∧ ∃ acc, G D = some (.lst acc) ∧ RowsAt K G acc (((waysOf (menusL n (arcs Ts))).take i).filter fun w => @decide (KG.Back (arcsOf (arcs Ts) w)) (Classical.propDecidable _))) ?_ ?_ ?_ ?_⟩
    · refine ⟨fun b o ne q => ?_, [], upd_same, .nil⟩
      rw [upd_ne ne]
      exact q
    · rintro i G _ ⟨kp, _⟩
      exact .inl (.inl (kp _ _ (ne_of_none hg hD) hg))
    · rintro i x G G' hi ⟨kp, acc, hd, st⟩ ⟨rfl, hxi⟩
      have SD : Same H1 G' := fun b o q => kp b o (ne_of_none q hD) q
      obtain ⟨wv, hwi, q2, rfl, hq2⟩ := (hy.same SD).get hxi
      have lw := mem_waysOf_len (List.mem_of_getElem? hwi)
      rw [menusL_len] at lw
      have SA := SS.trans SD
      refine ⟨rfl, _, rfl, _, rfl, _, rfl, l, q2, xs, Ts, wv, rfl, SA.seq hl, hx.same SA, hq2, by omega, l10, fun H2 r2 ys3 S5 nr2 hr2 hy2 => ?_⟩
      refine ⟨n, r2, ys3, _, rfl, .inl (.inl hr2), hy2, arcsOf_in hT, n6, Nat.le_trans arcsOf_le (by omega), fun H3 S6 => ⟨_, rfl, ite2 (fun c => ?_) (fun c => ?_)⟩⟩
      · have S56 := S5.trans S6
        have hd' := S56 _ _ hd
        refine ⟨_, rfl, acc, hd', mid_lt ?_, fun b o ne q => ?_, acc ++ [.ref q2], upd_same, ?_⟩
        · rw [st.1]
          exact Nat.le_trans (List.length_filter_le _ _) (by rw [List.length_take]; omega)
        · rw [upd_ne ne]
          exact S56 _ _ (kp b o ne q)
        · rw [filter_snoc hwi, if_pos c]
          exact ((st.same S56).snoc ⟨q2, rfl, S56.tup hq2⟩).updL hd'
      · have S56 := S5.trans S6
        refine ⟨fun b o ne q => S56 _ _ (kp b o ne q), acc, S56 _ _ hd, ?_⟩
        rw [filter_snoc hwi, if_neg c, List.append_nil]
        exact st.same S56
    · rintro G ⟨kp, acc, hd, st⟩
      rw [hy.1, List.take_length] at st
      exact hq _ D acc (fun b o q => kp b o (ne_of_none (SS _ _ q) hD) (SS _ _ q)) hd st
end
end K3
namespace K3
open PySem PySem.Spec PyProof.Rows L2 He HX KG
section
variable {P : Program} {w : World} {K : PySem.W.Frag} {mg : Str → Option Value} {base : Heap}
def NN__law_turns_told : List PySem.Str := ["web", "due", "many"]
theorem sc__law_turns_told : FnScope NN__law_turns_told ["web", "due"] (defScope (top 47)) := ⟨rfl, rfl, rfl, by decide +kernel, rfl, by decide +kernel, by decide +kernel⟩
theorem ok__law_turns_told (h : HK K mg) (c__law_int : Cal P w K mg base 1 "_law_int" ["x"] (sp__law_int K)) (c__law_lots_are : Cal P w K mg base 3 "_law_lots_are" ["told", "due"] (sp__law_lots_are K)) (c_turn_count : Cal P w K mg base 10 "turn_count" ["web"] (sp_turn_count K)) (c_turns : CalG P w K mg base 10 "turns" ["web"] (sp_turns K)) : Cal P w K mg base 14 "_law_turns_told" ["web", "due"] (sp__law_turns_told K) := by
  have F : FunD K "_law_turns_told" "_law_turns_told" (defArgs (top 47)) (defBody (top 47)) (defScope (top 47)) [] [] (ga K "_law_turns_told") (fdA K (ga K "_law_turns_told")) := h.says.funD 38
  have wf := h.wf
  have G : FnOk P w K mg base (L2.CX P w) (13 + 1) (ga K "_law_turns_told") (fdA K (ga K "_law_turns_told")) ["web", "due"] (sp__law_turns_told K) := okX F sc__law_turns_told (fun vs H Q E hs => by (repeat (obtain ⟨_, hs⟩ := hs)) <;> subst_vars <;> rfl) (fun cdv A outer s H vs Q E hr hs => ?_)
  · exact ⟨G, h.glo _, F.kp, F.bindsN (fun _ _ _ _ _ _ us hl => match us, hl with | [_, _], _ => rfl)⟩
  refine ⟨_, (pss_cons (ps_set (i := 2) sc__law_turns_told.nd rfl (by first | exact Or.inl rfl | exact Or.inr rfl) (pe_cal c_turn_count hr passL (pa_cons (pv 0) pa_nil)))
      (pss_cons (ps_if (PW.pt (pw_or (pt_not (pt_val (pe_cal c__law_int hr passL (pa_cons (pv 2) pa_nil)))) (pw_or1 (pt_cmpR op_ne (pv 2) (pe_callB call_len_seq (by rfl) (h.free "len") (by decide +kernel) (pa_cons (pv 1) pa_nil)) (nomark _)))))
        (pss_one (ps_ret pe_bl))
        pss_nil)
      (pss_one (ps_ret (pe_cal c__law_lots_are hr passL (pa_cons (pe_listG (pgen_call c_turns.ok (hr.mono (by decide)) (by rfl) c_turns.at_ c_turns.kp c_turns.b .nil (pa_cons (pv 0) pa_nil)) passL (fun _ _ _ z => z.elim) (hr.mono (by decide)) (by rfl) (h.free "list") (by decide +kernel)) (pa_cons (pv 1) pa_nil))))))), ?_⟩
  obtain ⟨a, l, n, Ts, xs, rfl, hw, gw, jn, hl, hx, hq⟩ := hs
  have lT := gw.len
  have laT : (arcs Ts).length = Ts.length := by simp
  refine ⟨_, rfl, a, n, Ts, rfl, hw, gw, fun _ H1 S1 => ?_, fun nj => absurd jn nj⟩
  refine ⟨_, rfl, _, rfl, _, rfl, iteF ?_⟩
  refine ⟨_, rfl, _, rfl, l, _, rfl, .inl (S1.seq hl), rfl, _, rfl, iteNS (congrArg V.int (by rw [hx.1])) ?_⟩
  refine ⟨_, rfl, a, n, Ts, rfl, hw.same S1, gw, fun _ H2 ys S2 hy g hg => ?_, fun nj => absurd jn nj⟩
  have u := same_upd (o := .lst ys) hg
  have S12 := (S1.trans S2).trans u
  refine ⟨_, rfl, g, l, ys, xs, _, rfl, .inl (.inl upd_same), S12.seq hl, hy.same u, hx.same S12, Nat.le_trans (turnL_le (by rw [menusL_len]; omega) fun m h => by rcases menusL_mem h with rfl | rfl <;> decide) (by decide), fun d m => ?_, hq _ S12⟩
  have z := mem_waysOf_len (List.mem_filter.mp m).1
  rw [menusL_len] at z
  omega
end
end K3
namespace K3
open PySem PySem.Spec PyProof.Rows L2 He HX KG
section
variable {P : Program} {w : World} {K : PySem.W.Frag} {mg : Str → Option Value} {base : Heap}
def NN__law_vanish : List PySem.Str := ["places", "arcs", "step", "starts", "arc"]
theorem sc__law_vanish : FnScope NN__law_vanish ["places", "arcs"] (defScope (top 42)) := ⟨rfl, rfl, rfl, by decide +kernel, rfl, by decide +kernel, by decide +kernel⟩
theorem ok__law_vanish (h : HK K mg) : Cal P w K mg base 1 "_law_vanish" ["places", "arcs"] (sp__law_vanish K) := by
  have F : FunD K "_law_vanish" "_law_vanish" (defArgs (top 42)) (defBody (top 42)) (defScope (top 42)) [] [] (ga K "_law_vanish") (fdA K (ga K "_law_vanish")) := h.says.funD 33
  have wf := h.wf
  have G : FnOk P w K mg base (L2.CX P w) (0 + 1) (ga K "_law_vanish") (fdA K (ga K "_law_vanish")) ["places", "arcs"] (sp__law_vanish K) := okX F sc__law_vanish (fun vs H Q E hs => by (repeat (obtain ⟨_, hs⟩ := hs)) <;> subst_vars <;> rfl) (fun cdv A outer s H vs Q E hr hs => ?_)
  · exact ⟨G, h.glo _, F.kp, F.bindsN (fun _ _ _ _ _ _ us hl => match us, hl with | [_, _], _ => rfl)⟩
  refine ⟨_, (pss_cons (ps_for (passes_of rfl) (by rfl) (pi_range1 (by rfl) (h.free "range") (pa_cons (pv 0) pa_nil)) (pg_name (i := 2) sc__law_vanish.nd rfl (by first | exact Or.inl rfl | exact Or.inr rfl))
        (pss_cons (ps_set (i := 3) sc__law_vanish.nd rfl (by first | exact Or.inl rfl | exact Or.inr rfl) (pe_lc (own := [("arc", 4)]) (by rfl) sc__law_vanish.nd (pi_list (pv 1)) (blkOk_by (own := [("arc", 4)]) (N := NN__law_vanish) (sc := defScope (top 42)) (by decide +kernel)) (fun _ _ _ _ _ => by exact (pg_name (i := 4) sc__law_vanish.nd rfl (by first | exact Or.inl rfl | exact Or.inr rfl))) (fun _ _ _ _ _ => by exact pts_nil) (fun _ _ _ _ _ => by exact (pe_ix (ix_tupK K rfl) (pv 4) pe_int (fun _ _ => rfl)))))
        (pss_one (ps_setLc (i := 1) (own := [("arc", 4)]) (by rfl) sc__law_vanish.nd rfl rfl (sw_true rfl rfl rfl (by decide +kernel)) (pi_list (pv 1)) (blkOk_by (own := [("arc", 4)]) (N := NN__law_vanish) (sc := defScope (top 42)) (by decide +kernel)) (fun _ _ _ _ _ => by exact (pg_name (i := 4) sc__law_vanish.nd rfl (by first | exact Or.inl rfl | exact Or.inr rfl))) (fun _ _ _ _ _ => by exact (pts_one (pt_cmpR (op_in_seqK K rfl) (pe_ix (ix_tupK K rfl) (pv 4) pe_int (fun _ _ => rfl)) (pv 3) (by rfl)))) (fun _ _ _ _ _ => by exact (pv 4))))))
      (pss_one (ps_ret (pe_cmpR (op_eqD hr.units) (pv 1) (pe_lst pa_nil) (nomark _))))), ?_⟩
  obtain ⟨n, l, xs, A, rfl, hl, hx, n6, l20, hq⟩ := hs
  have vl : ∀ i, (van i A).length ≤ 20 := fun i => by
    have z : ∀ i, (van i A).length ≤ A.length := fun i => by
      induction i with
      | zero => exact Nat.le_refl _
      | succ i ih =>
        rw [van_succ]
        exact Nat.le_trans (List.length_filter_le _ _) ih
    have := z i
    omega
  refine ⟨_, rfl, n, rfl, by omega, by omega, for_range (n := n) (fun i σ H' => Same H H' ∧ ∃ (l : Addr) (ys : List V) (r2 r3 r4 : Option V), σ = [some (nI n), some (.ref l), r2, r3, r4] ∧ SqL K H' l ys ∧ RowsAt K H' ys ((van i A).map arcR)) ?_ ?_ ?_⟩
  · exact ⟨Same.refl H, l, xs, _, _, _, rfl, hl, hx⟩
  · rintro i σ H' hi ⟨S, l, ys, r2, r3, r4, rfl, h1, h2⟩
    rw [van_succ]
    have lB := vl i
    generalize van i A = B at h2 lB ⊢
    have ly := arows_len h2
    refine ⟨_, rfl, l, rfl, ⟨_, h1⟩, fun D hD => lc_list (K := K) (a := l) (xs := ys) (fun j G => G = upd H' D (.lst ((B.take j).map fun a => nI a.1))) rfl ?_ ?_ ?_⟩
    · rintro j G _ rfl
      exact (same_upd hD).seq h1
    · rintro j v G hv rfl
      obtain ⟨a, q, ha, rfl, hq'⟩ := arc_get (h2.same (same_upd (o := .lst ((B.take j).map fun a => nI a.1)) hD)) hv
      exact ⟨rfl, _, rfl, q, _, _, _, rfl, rfl, hq', atI_nat (j := 0) rfl, lcs ha (by omega) rfl⟩
    rintro G rfl
    rw [ly, List.take_length]
    have u := same_upd (H := H') (o := .lst (B.map fun a => nI a.1)) hD
    have hDD : (upd H' D (.lst (B.map fun a => nI a.1))) D = some (.lst (nL (B.map Prod.fst))) := by
      rw [upd_same]
      unfold nL
      rw [List.map_map]
      rfl
    generalize upd H' D (.lst (B.map fun a => nI a.1)) = H1 at u hDD ⊢
    have h1' := u.seq h1
    have h2' := h2.same u
    refine ⟨_, rfl, l, rfl, ⟨_, h1'⟩, fun Z hZ => lc_list (K := K) (a := l) (xs := ys) (fun j G => ∃ acc, G = upd H1 Z (.lst acc) ∧ RowsAt K H1 acc (((B.take j).filter fun a => decide (a.2 ∈ B.map Prod.fst)).map arcR)) ⟨[], rfl, .nil⟩ ?_ ?_ ?_⟩
    · rintro j G _ ⟨acc, rfl, _⟩
      exact (same_upd hZ).seq h1'
    · rintro j v G hv ⟨acc, rfl, st⟩
      have v1 := same_upd (H := H1) (o := .lst acc) hZ
      obtain ⟨a, q, ha, rfl, hq'⟩ := arc_get h2' hv
      refine ⟨rfl, _, rfl, q, _, _, _, rfl, rfl, v1.tup hq', atI_nat (j := 1) rfl, _, rfl, D, _, rfl, .inl (.inl (.inl (v1 _ _ hDD))), rfl, flat_nL _, _, rfl, ?_⟩
      rw [if_neg Bool.false_ne_true, inV_nat]
      refine ite2 (fun c => ?_) (fun c => ?_)
      · refine ⟨_, rfl, acc, upd_same, small_lt ?_, acc ++ [.ref q], by rw [upd_upd], ?_⟩
        · rw [st.1, List.length_map]
          exact Nat.le_trans (List.length_filter_le _ _) (by rw [List.length_take]; omega)
        · rw [filter_snoc ha, if_pos c, List.map_append]
          exact st.snoc ⟨q, rfl, hq'⟩
      · refine ⟨acc, rfl, ?_⟩
        rw [filter_snoc ha, if_neg c, List.append_nil]
        exact st
    · rintro G ⟨acc, rfl, st⟩
      rw [ly, List.take_length] at st
      have v1 := same_upd (H := H1) (o := .lst acc) hZ
      exact ⟨(S.trans u).trans v1, Z, acc, _, _, _, rfl, .inl (.inl upd_same), st.same v1⟩
  · rintro σ H' ⟨S, l, ys, r2, r3, r4, rfl, h1, h2⟩
    refine ⟨_, rfl, size0, fun e he => ?_⟩
    have u := same_upd (H := H') (o := .lst []) he
    refine ⟨.list (dR ((van n A).map arcR)), .list (dI []), dp_rows (u.seq h1) (h2.same u), dp_ints (.inl (.inl upd_same)), sh_rows _, sh_ints _, ?_⟩
    rw [eqvL_rows0]
    have e2 : ((van n A).map arcR).isEmpty = decide (van n A = []) := by
      cases van n A <;> rfl
    rw [e2]
    exact hq _ (S.trans u)
end
end K3
namespace K3
open PySem PySem.Spec PyProof.Rows L2 He HX KG
section
variable {P : Program} {w : World} {K : PySem.W.Frag} {mg : Str → Option Value} {base : Heap}
def NN__law_ways : List PySem.Str := ["menus", "ways", "menu", "grown", "way", "sign"]
theorem sc__law_ways : FnScope NN__law_ways ["menus"] (defScope (top 40)) := ⟨rfl, rfl, rfl, by decide +kernel, rfl, by decide +kernel, by decide +kernel⟩
theorem ok__law_ways (h : HK K mg) : Cal P w K mg base 1 "_law_ways" ["menus"] (sp__law_ways K) := by
  have F : FunD K "_law_ways" "_law_ways" (defArgs (top 40)) (defBody (top 40)) (defScope (top 40)) [] [] (ga K "_law_ways") (fdA K (ga K "_law_ways")) := h.says.funD 31
  have wf := h.wf
  have G : FnOk P w K mg base (L2.CX P w) (0 + 1) (ga K "_law_ways") (fdA K (ga K "_law_ways")) ["menus"] (sp__law_ways K) := okX F sc__law_ways (fun vs H Q E hs => by (repeat (obtain ⟨_, hs⟩ := hs)) <;> subst_vars <;> rfl) (fun cdv A outer s H vs Q E hr hs => ?_)
  · exact ⟨G, h.glo _, F.kp, F.bindsN (fun _ _ _ _ _ _ us hl => match us, hl with | [_], _ => rfl)⟩
  refine ⟨_, (pss_cons (ps_set (i := 1) sc__law_ways.nd rfl (by first | exact Or.inl rfl | exact Or.inr rfl) (pe_lst (pa_cons (pe_tup pa_nil) pa_nil)))
      (pss_cons (ps_for (passes_of rfl) (by rfl) (pi_list (pv 0)) (pg_name (i := 2) sc__law_ways.nd rfl (by first | exact Or.inl rfl | exact Or.inr rfl))
        (pss_cons (ps_set (i := 3) sc__law_ways.nd rfl (by first | exact Or.inl rfl | exact Or.inr rfl) (pe_lst pa_nil))
        (pss_cons (ps_for (passes_of rfl) (by rfl) (pi_list (pe_callTy call_list_of (by rfl) (h.free "list") (by decide +kernel) (pa_cons (pv 1) pa_nil))) (pg_name (i := 4) sc__law_ways.nd rfl (by first | exact Or.inl rfl | exact Or.inr rfl))
          (pss_one (ps_for (passes_of rfl) (by rfl) (pi_tup (pv 2)) (pg_name (i := 5) sc__law_ways.nd rfl (by first | exact Or.inl rfl | exact Or.inr rfl))
            (pss_one (ps_expr (pe_bm PySem.F.plainAttrs_list PySem.F.slot_list_append PySem.F.type_list_append mt_append (pv 3) (pa_cons (pe_op op_catA (pv 4) (pe_tup (pa_cons (pv 5) pa_nil))) pa_nil)))))))
        (pss_one (ps_set (i := 1) sc__law_ways.nd rfl (by first | exact Or.inl rfl | exact Or.inr rfl) (pv 3))))))
      (pss_one (ps_ret (pv 1))))), ?_⟩
  obtain ⟨l, xs, ms, rfl, hl, hx, h10, hm2, hq⟩ := hs
  refine ⟨size0, fun e0 he0 => ?_⟩
  have S2 := same_upd (o := .tup []) he0
  refine ⟨small_size (show 1 ≤ 1000 by decide), fun g0 hg0 => ?_⟩
  have S3 := same_upd (o := .lst [.ref e0]) hg0
  have S23 := S2.trans S3
  refine ⟨_, rfl, l, rfl, ⟨_, S23.seq hl⟩, for_list (K := K) (a := l) (xs := xs) (fun i σ H' => Same H H' ∧ ∃ (g : Addr) (ys : List V) (r2 r3 r4 r5 : Option V), σ = [some (.ref l), some (.ref g), r2, r3, r4, r5] ∧ H' g = some (.lst ys) ∧ RowsAt K H' ys (growW [[]] (ms.take i))) ?_ ?_ ?_ ?_⟩
  · exact ⟨S23, g0, _, _, _, _, _, rfl, upd_same, RowsAt.nil.snoc (d := []) ⟨e0, rfl, S3.tup (.inl (.inl upd_same))⟩⟩
  · rintro i σ H' _ ⟨S, _⟩
    exact S.seq hl
  · rintro i x σ H' hxi ⟨S, g, ys, r2, r3, r4, r5, rfl, h1, h2⟩
    obtain ⟨m, hm, p, rfl, hp⟩ := (hx.same S).get hxi
    have hm2' := hm2 m (List.mem_of_getElem? hm)
    have gl := growW_le (ms := ms.take i) (by rw [List.length_take]; omega) fun m h => hm2 m (List.mem_of_mem_take h)
    refine ⟨size0, fun gr hgr => ?_⟩
    have u1 := same_upd (o := .lst []) hgr
    have hg1 : (upd H' gr (.lst [])) gr = some (.lst []) := upd_same
    have SU := S.trans u1
    generalize upd H' gr (.lst []) = HA at u1 hg1 SU ⊢
    have hng : H gr = none := S.free hgr
    refine ⟨_, rfl, g, _, rfl, .inl (.inl (.inl (u1 _ _ h1))), fun c hc => ?_⟩
    have u2 := same_upd (o := .lst ys) hc
    have hgB := u2 _ _ hg1
    have hcB : (upd HA c (.lst ys)) c = some (.lst ys) := upd_same
    have cg : c ≠ gr := ne_of_some_none hc hg1
    have hpB := (u1.trans u2).tup hp
    have hyB := h2.same (u1.trans u2)
    have SB := SU.trans u2
    generalize upd HA c (.lst ys) = HB at u2 hgB hcB hpB hyB SB ⊢
    refine ⟨c, rfl, ⟨_, .inl (.inl hcB)⟩, for_list (K := K) (a := c) (xs := ys) (fun k σ H2 => (∀ b o, b ≠ gr → HB b = some o → H2 b = some o) ∧ ∃ (acc : List V) (r4 r5 : Option V), σ = [some (.ref l), some (.ref g), some (.ref p), some (.ref gr), r4, r5] ∧ H2 gr = some (.lst acc) ∧ RowsAt K H2 acc (((growW [[]] (ms.take i)).take k).flatMap fun w => m.map fun s => w ++ [s])) ?_ ?_ ?_ ?_⟩
    · exact ⟨fun _ _ _ q => q, [], _, _, rfl, hgB, .nil⟩
    · rintro k σ H2 _ ⟨kp, _⟩
      exact .inl (.inl (kp _ _ cg hcB))
    · rintro k x σ H2 hxk ⟨kp, acc, r4, r5, rfl, hd, st⟩
      obtain ⟨wv, hwk, q2, rfl, hq2⟩ := hyB.get hxk
      have lw := growW_len (List.mem_of_getElem? hwk)
      rw [List.length_take] at lw
      have hk : k < (growW [[]] (ms.take i)).length := (List.getElem?_eq_some_iff.mp hwk).1
      rw [take_snoc hwk, List.flatMap_append, show List.flatMap (fun w => m.map fun s => w ++ [s]) [wv] = m.map fun s => wv ++ [s] by simp]
      refine ⟨_, rfl, p, rfl, ⟨_, sqt_but kp hgB hpB⟩, for_tup (K := K) (a := p) (xs := iL m) (fun j σ H3 => (∀ b o, b ≠ gr → HB b = some o → H3 b = some o) ∧ ∃ (acc : List V) (r5 : Option V), σ = [some (.ref l), some (.ref g), some (.ref p), some (.ref gr), some (.ref q2), r5] ∧ H3 gr = some (.lst acc) ∧ RowsAt K H3 acc ((((growW [[]] (ms.take i)).take k).flatMap fun w => m.map fun s => w ++ [s]) ++ (m.map fun s => wv ++ [s]).take j)) ?_ ?_ ?_ ?_⟩
      · exact ⟨kp, acc, _, rfl, hd, by rw [List.take_zero, List.append_nil]; exact st⟩
      · rintro j σ H3 _ ⟨kp3, _⟩
        exact sqt_but kp3 hgB hpB
      · rintro j x σ H3 hxj ⟨kp3, acc3, r5, rfl, hd3, st3⟩
        obtain ⟨s, hsj, rfl⟩ := iL_get hxj
        have hj : j < m.length := (List.getElem?_eq_some_iff.mp hsj).1
        refine ⟨_, rfl, .inl ⟨rfl, _, SqL.of hd3⟩, _, rfl, _, rfl, small_size (show 1 ≤ 1000 by decide), fun z hz => ?_⟩
        have v1 := same_upd (o := .tup [.int s]) hz
        refine rd_cat1 (v1.tup (sqt_but kp3 hgB hq2)) (.inl (.inl upd_same)) (by omega) fun H4 u S4 hu => ?_
        have S5 := v1.trans S4
        have hd5 := S5 _ _ hd3
        refine ⟨gr, _, _, rfl, rfl, hd5, mid_lt ?_, fun b o ne q => ?_, acc3 ++ [.ref u], _, rfl, upd_same, ?_⟩
        · rw [st3.1, List.length_append, List.length_take, List.length_map]
          have z1 := flat_le hm2' ((growW [[]] (ms.take i)).take k)
          rw [List.length_take] at z1
          omega
        · rw [upd_ne ne]
          exact S5 _ _ (kp3 b o ne q)
        · exact ((st3.same S5).app (by rw [List.getElem?_map, hsj]; rfl) ⟨u, rfl, hu⟩).updL hd5
      · rintro σ H3 ⟨kp3, acc3, r5, rfl, hd3, st3⟩
        rw [show (m.map fun s => wv ++ [s]).take (iL m).length = m.map fun s => wv ++ [s] from List.take_of_length_le (by rw [List.length_map, len_iL]; exact Nat.le_refl _)] at st3
        exact ⟨kp3, acc3, _, _, rfl, hd3, st3⟩
    · rintro σ H2 ⟨kp, acc, r4, r5, rfl, hd, st⟩
      rw [hyB.1, List.take_length, ← growW_snoc, ← take_snoc hm] at st
      exact ⟨_, rfl, fun b o q => kp b o (ne_of_none q hng) (SB _ _ q), gr, acc, _, _, _, _, rfl, hd, st⟩
  · rintro σ H' ⟨S, g, ys, r2, r3, r4, r5, rfl, h1, h2⟩
    rw [hx.1, List.take_length, growW_ways] at h2
    exact ⟨_, rfl, hq _ g ys S h1 h2⟩
end
end K3
namespace K3
open PySem PySem.Spec PyProof.Rows L2 He HX KG
section
variable {P : Program} {w : World} {K : PySem.W.Frag} {mg : Str → Option Value} {base : Heap}
def NN__law_web : List PySem.Str := ["pool", "most", "places", "top", "ties", "place", "other", "tie", "more", "k", "first", "second", "at"]
theorem sc__law_web : FnScope NN__law_web ["pool", "most"] (defScope (top 37)) := ⟨rfl, rfl, rfl, by decide +kernel, rfl, by decide +kernel, by decide +kernel⟩
theorem ok__law_web (h : HK K mg) (c__law_draw : Cal P w K mg base 1 "_law_draw" ["pool", "many"] (sp__law_draw K)) : Cal P w K mg base 2 "_law_web" ["pool", "most"] (sp__law_web K) := by
  have F : FunD K "_law_web" "_law_web" (defArgs (top 37)) (defBody (top 37)) (defScope (top 37)) [] [] (ga K "_law_web") (fdA K (ga K "_law_web")) := h.says.funD 28
  have wf := h.wf
  have G : FnOk P w K mg base (L2.CX P w) (1 + 1) (ga K "_law_web") (fdA K (ga K "_law_web")) ["pool", "most"] (sp__law_web K) := okX F sc__law_web (fun vs H Q E hs => by (repeat (obtain ⟨_, hs⟩ := hs)) <;> subst_vars <;> rfl) (fun cdv A outer s H vs Q E hr hs => ?_)
  · exact ⟨G, h.glo _, F.kp, F.bindsN (fun _ _ _ _ _ _ us hl => match us, hl with | [_, _], _ => rfl)⟩
  refine ⟨_, (pss_cons (ps_set (i := 2) sc__law_web.nd rfl (by first | exact Or.inl rfl | exact Or.inr rfl) (pe_ix ix_list (pe_lst (pa_cons pe_int (pa_cons pe_int (pa_cons pe_int (pa_cons pe_int (pa_cons pe_int (pa_cons pe_int pa_nil))))))) (pe_cal c__law_draw hr passL (pa_cons (pv 0) (pa_cons pe_int pa_nil))) (fun _ _ => rfl)))
      (pss_cons (ps_set (i := 3) sc__law_web.nd rfl (by first | exact Or.inl rfl | exact Or.inr rfl) pe_int)
      (pss_cons (ps_if (pt_cmpR op_eq (pe_cal c__law_draw hr passL (pa_cons (pv 0) (pa_cons pe_int pa_nil))) pe_int (nomark _))
        (pss_one (ps_set (i := 3) sc__law_web.nd rfl (by first | exact Or.inl rfl | exact Or.inr rfl) (pe_op op_pow pe_int pe_int)))
        pss_nil)
      (pss_cons (ps_set (i := 4) sc__law_web.nd rfl (by first | exact Or.inl rfl | exact Or.inr rfl) (pe_lst pa_nil))
      (pss_cons (ps_if (pt_cmpR op_ne (pe_cal c__law_draw hr passL (pa_cons (pv 0) (pa_cons pe_int pa_nil))) pe_int (nomark _))
        (pss_one (ps_for (passes_of rfl) (by rfl) (pi_range2 (by rfl) (h.free "range") (pa_cons pe_int (pa_cons (pv 2) pa_nil))) (pg_name (i := 5) sc__law_web.nd rfl (by first | exact Or.inl rfl | exact Or.inr rfl))
          (pss_cons (ps_set (i := 6) sc__law_web.nd rfl (by first | exact Or.inl rfl | exact Or.inr rfl) (pe_cal c__law_draw hr passL (pa_cons (pv 0) (pa_cons (pv 5) pa_nil))))
          (pss_cons (ps_set (i := 7) sc__law_web.nd rfl (by first | exact Or.inl rfl | exact Or.inr rfl) (pe_tup (pa_cons (pv 5) (pa_cons (pv 6) (pa_cons (pe_op op_add pe_int (pe_cal c__law_draw hr passL (pa_cons (pv 0) (pa_cons (pv 3) pa_nil)))) pa_nil)))))
          (pss_cons (ps_if (pt_cmpR op_eq (pe_cal c__law_draw hr passL (pa_cons (pv 0) (pa_cons pe_int pa_nil))) pe_int (nomark _))
            (pss_one (ps_set (i := 7) sc__law_web.nd rfl (by first | exact Or.inl rfl | exact Or.inr rfl) (pe_tup (pa_cons (pv 6) (pa_cons (pv 5) (pa_cons (pe_ix ix_tup (pv 7) pe_int (fun _ _ => rfl)) pa_nil))))))
            pss_nil)
          (pss_one (ps_expr (pe_bm PySem.F.plainAttrs_list PySem.F.slot_list_insert PySem.F.type_list_insert mt_insert (pv 4) (pa_cons (pe_cal c__law_draw hr passL (pa_cons (pv 0) (pa_cons (pe_op op_add (pe_callB call_len_seq (by rfl) (h.free "len") (by decide +kernel) (pa_cons (pv 4) pa_nil)) pe_int) pa_nil))) (pa_cons (pv 7) pa_nil))))))))))
        pss_nil)
      (pss_cons (ps_set (i := 8) sc__law_web.nd rfl (by first | exact Or.inl rfl | exact Or.inr rfl) (pe_ix ix_list (pe_lst (pa_cons pe_int (pa_cons pe_int (pa_cons pe_int (pa_cons pe_int (pa_cons pe_int (pa_cons pe_int (pa_cons pe_int pa_nil)))))))) (pe_cal c__law_draw hr passL (pa_cons (pv 0) (pa_cons pe_int pa_nil))) (fun _ _ => rfl)))
      (pss_cons (ps_if (pt_cmpR op_eq (pv 2) pe_int (nomark _))
        (pss_one (ps_set (i := 8) sc__law_web.nd rfl (by first | exact Or.inl rfl | exact Or.inr rfl) pe_int))
        pss_nil)
      (pss_cons (ps_for (passes_of rfl) (by rfl) (pi_range1 (by rfl) (h.free "range") (pa_cons (pv 8) pa_nil)) (pg_name (i := 9) sc__law_web.nd rfl (by first | exact Or.inl rfl | exact Or.inr rfl))
        (pss_one (ps_if (pt_cmpR op_lt (pe_callB call_len_seq (by rfl) (h.free "len") (by decide +kernel) (pa_cons (pv 4) pa_nil)) (pv 1) (nomark _))
          (pss_cons (ps_set (i := 10) sc__law_web.nd rfl (by first | exact Or.inl rfl | exact Or.inr rfl) (pe_cal c__law_draw hr passL (pa_cons (pv 0) (pa_cons (pv 2) pa_nil))))
          (pss_cons (ps_set (i := 11) sc__law_web.nd rfl (by first | exact Or.inl rfl | exact Or.inr rfl) (pe_op op_modN (pe_callTy call_int1 (by rfl) (h.free "int") (by decide +kernel) (pa_cons (pe_op op_add (pe_op op_add (pv 10) pe_int) (pe_cal c__law_draw hr passL (pa_cons (pv 0) (pa_cons (pe_op op_sub (pv 2) pe_int) pa_nil)))) pa_nil)) (pv 2)))
          (pss_cons (ps_set (i := 7) sc__law_web.nd rfl (by first | exact Or.inl rfl | exact Or.inr rfl) (pe_tup (pa_cons (pv 10) (pa_cons (pv 11) (pa_cons (pe_op op_add pe_int (pe_cal c__law_draw hr passL (pa_cons (pv 0) (pa_cons (pv 3) pa_nil)))) pa_nil)))))
          (pss_cons (ps_set (i := 12) sc__law_web.nd rfl (by first | exact Or.inl rfl | exact Or.inr rfl) (pe_cal c__law_draw hr passL (pa_cons (pv 0) (pa_cons (pe_op op_add (pe_callB call_len_seq (by rfl) (h.free "len") (by decide +kernel) (pa_cons (pv 4) pa_nil)) pe_int) pa_nil))))
          (pss_one (ps_expr (pe_bm PySem.F.plainAttrs_list PySem.F.slot_list_insert PySem.F.type_list_insert mt_insert (pv 4) (pa_cons (pv 12) (pa_cons (pv 7) pa_nil)))))))))
          pss_nil)))
      (pss_one (ps_ret (pe_lst (pa_cons (pv 2) (pa_cons (pv 4) pa_nil))))))))))))), ?_⟩
  obtain ⟨p, m, rfl, hp, hm, hq⟩ := hs
  refine ⟨small_size (show 6 ≤ 1000 by decide), fun l0 hl0 => ?_⟩
  have T0 := (PoolTo.refl hp).upd (o := .lst [.int 4, .int 3, .int 5, .int 2, .int 6, .int 1]) hl0
  refine ⟨_, rfl, p, _, rfl, T0.2, by decide, bd64 (by decide), fun H1 i T1 i0 i6 => ?_⟩
  have lp : l0 ≠ p := fun z => by
    obtain ⟨xs, e, _⟩ := hp
    rw [z, e] at hl0
    cases hl0
  have h1 := T1.1 l0 _ lp upd_same
  obtain ⟨v, hv, hmv⟩ := atI_some (xs := ([.int 4, .int 3, .int 5, .int 2, .int 6, .int 1] : List V)) i0 (by simpa using i6)
  obtain ⟨n, rfl, n1, n6⟩ : ∃ n : Nat, v = nI n ∧ 1 ≤ n ∧ n ≤ 6 := by
    simp only [List.mem_cons, List.mem_nil_iff, or_false] at hmv
    rcases hmv with e | e | e | e | e | e
    · exact ⟨4, e, by decide, by decide⟩
    · exact ⟨3, e, by decide, by decide⟩
    · exact ⟨5, e, by decide, by decide⟩
    · exact ⟨2, e, by decide, by decide⟩
    · exact ⟨6, e, by decide, by decide⟩
    · exact ⟨1, e, by decide, by decide⟩
  have TT := T0.trans T1
  refine ⟨l0, _, _, _, rfl, rfl, SqL.of h1, hv, ?_⟩
  clear hv h1 hl0 T0 T1 hmv
  dsimp only [gName]
  refine seq_cut (fun σ' H' => H' = H1 ∧ σ' = [some (.ref p), some (nI m), some (nI n), some (.int 9), none, none, none, none, none, none, none, none, none]) (fun σ' H' hp1 => ?_) (fun R hR => hR _ _ ⟨rfl, rfl⟩)
  obtain ⟨rfl, rfl⟩ := hp1
  refine seq_cut (fun σ' H' => PoolTo p H H' ∧ ∃ tp : Int, 0 < tp ∧ tp ≤ 1000000000000 ∧ σ' = [some (.ref p), some (nI m), some (nI n), some (.int tp), none, none, none, none, none, none, none, none, none]) (fun σ' H' hp1 => ?_) (fun R hR => ?_)
  rotate_left
  · refine ⟨_, rfl, p, _, rfl, TT.2, by decide, bd64 (by decide), fun H2 i t2 a b => ⟨rfl, _, rfl, ite2 (fun c => ?_) (fun c => ?_)⟩⟩
    · exact ⟨_, _, rfl, rfl, ⟨by decide, by decide, by decide⟩, hR _ _ ⟨TT.trans t2, 10 ^ (12 : Int).toNat, by decide, by decide, rfl⟩⟩
    · exact hR _ _ ⟨TT.trans t2, 9, by decide, by decide, rfl⟩
  obtain ⟨T1, tp, tp0, tp1, rfl⟩ := hp1
  have btp : Bd 9000 tp := bd64 (by omega)
  refine seq_cut (fun σ' H' => PoolTo p H H' ∧ ∃ tl : Addr, H tl = none ∧ TL K p tl n [] H' ∧ σ' = [some (.ref p), some (nI m), some (nI n), some (.int tp), some (.ref tl), none, none, none, none, none, none, none, none]) (fun σ' H' hp1 => ?_) (fun R hR => ?_)
  rotate_left
  · refine ⟨size0, fun tl htl => hR _ _ ⟨T1.upd htl, tl, ?_, ⟨(T1.upd htl).2, ?_, ⟨[], upd_same, .nil⟩, fun u mu => by cases mu⟩, rfl⟩⟩
    · cases e : H tl with
      | none => rfl
      | some o =>
        by_cases c : tl = p
        · obtain ⟨xs, e2, _⟩ := T1.2
          rw [c, e2] at htl
          cases htl
        · rw [T1.1 _ _ c e] at htl
          cases htl
    · intro c
      obtain ⟨xs, e2, _⟩ := T1.2
      rw [c, e2] at htl
      cases htl
  obtain ⟨T2, tl, tln, TL0, rfl⟩ := hp1
  refine seq_cut (fun σ' H' => PoolTo p H H' ∧ ∃ (Ts : List Tie) (r5 r6 r7 r8 r9 r10 r11 r12 : Option V), TL K p tl n Ts H' ∧ Ts.length ≤ 5 ∧ σ' = [some (.ref p), some (nI m), some (nI n), some (.int tp), some (.ref tl), r5, r6, r7, r8, r9, r10, r11, r12]) (fun σ' H' hp1 => ?_) (fun R hR => ?_)
  rotate_left
  · refine ⟨_, rfl, p, _, rfl, T2.2, by decide, bd64 (by decide), fun H2 i t2 a b => ⟨rfl, _, rfl, ite2 (fun c => ?_) (fun c => ?_)⟩⟩
    · refine ⟨_, rfl, 1, n, rfl, ⟨by decide, by decide, by omega, by omega⟩, for_range (n := ((n : Int) - 1).toNat) (fun i σ H' => PoolTo p H H' ∧ ∃ (Ts : List Tie) (r5 r6 r7 r8 r9 r10 r11 r12 : Option V), TL K p tl n Ts H' ∧ Ts.length ≤ i ∧ σ = [some (.ref p), some (nI m), some (nI n), some (.int tp), some (.ref tl), r5, r6, r7, r8, r9, r10, r11, r12]) ?_ ?_ ?_⟩
      · exact ⟨T2.trans t2, [], _, _, _, _, _, _, _, _, TL0.to t2, Nat.le_refl _, rfl⟩
      · rintro i σ H3 hi ⟨T3, Ts, r5, r6, r7, r8, r9, r10, r11, r12, TLs, lTs, rfl⟩
        have pc : (1 : Int) + (i : Nat) = ((1 + i : Nat) : Int) := by omega
        rw [pc]
        refine ⟨_, rfl, _, rfl, p, _, rfl, T3.2, by omega, bd64 (by omega), fun H4 o t4 o0 o1 => ?_⟩
        obtain ⟨ot, rfl⟩ := Int.eq_ofNat_of_zero_le o0
        have TL4 := TLs.to t4
        have T4 := T3.trans t4
        refine ⟨_, rfl, _, rfl, _, rfl, _, rfl, p, _, rfl, T4.2, tp0, btp, fun H5 wt t5 w0 w1 => ⟨_, _, rfl, rfl, small_size (show 3 ≤ 1000 by decide), fun tq htq => ?_⟩⟩
        have T5 := (T4.trans t5).upd (o := .tup [nI (1 + i), nI ot, .int (1 + wt)]) htq
        have u5 := same_upd (o := .tup [nI (1 + i), nI ot, .int (1 + wt)]) htq
        have TL5 := (TL4.to t5).same u5
        have hq5 : SqT K (upd H5 tq (.tup [nI (1 + i), nI ot, .int (1 + wt)])) tq [nI (1 + i), nI ot, .int (1 + wt)] := .inl (.inl upd_same)
        dsimp only [gName]
        refine seq_cut (fun σ' H' => PoolTo p H H' ∧ TL K p tl n Ts H' ∧ ∃ (tq : Addr) (t : Tie), SqT K H' tq [nI t.1, nI t.2.1, .int t.2.2] ∧ (t.1 < n ∧ t.2.1 < n ∧ t.1 ≠ t.2.1 ∧ 0 < t.2.2) ∧ σ' = [some (.ref p), some (nI m), some (nI n), some (.int tp), some (.ref tl), some (nI (1 + i)), some (nI ot), some (.ref tq), r8, r9, r10, r11, r12]) (fun σ' H' hp1 => ?_) (fun R hR => ?_)
        rotate_left
        · refine ⟨_, rfl, p, _, rfl, T5.2, by decide, bd64 (by decide), fun H6 d6 t6 a b => ⟨rfl, _, rfl, ite2 (fun c => ?_) (fun c => ?_)⟩⟩
          · have hq6 := t6.tup T5.2 hq5
            refine ⟨_, rfl, _, rfl, _, rfl, tq, _, _, _, rfl, rfl, hq6, atI_nat (j := 2) rfl, small_size (show 3 ≤ 1000 by decide), fun z hz => ?_⟩
            have u7 := same_upd (o := .tup [nI ot, nI (1 + i), .int (1 + wt)]) hz
            exact hR _ _ ⟨(T5.trans t6).upd hz, (TL5.to t6).same u7, z, (ot, 1 + i, 1 + wt), .inl (.inl upd_same), ⟨by show ot < n; omega, by show 1 + i < n; omega, by show ot ≠ 1 + i; omega, by show 0 < 1 + wt; omega⟩, rfl⟩
          · exact hR _ _ ⟨T5.trans t6, TL5.to t6, tq, (1 + i, ot, 1 + wt), t6.tup T5.2 hq5, ⟨by show 1 + i < n; omega, by show ot < n; omega, by show 1 + i ≠ ot; omega, by show 0 < 1 + wt; omega⟩, rfl⟩
        clear hq5 u5 TL5 T5 htq
        obtain ⟨T6, TL6, tq, t, hq6, okt, rfl⟩ := hp1
        obtain ⟨ys, hy, hr'⟩ := TL6.ex
        have ly := rows_len hr'
        refine ⟨_, rfl, .inl ⟨rfl, _, SqL.of hy⟩, _, rfl, _, rfl, tl, _, rfl, .inl (.inl (.inl hy)), _, _, rfl, rfl, p, _, rfl, T6.2, by omega, bd64 (by omega), fun H7 at' t7 a0 a1 => ?_⟩
        obtain ⟨k7, rfl⟩ := Int.eq_ofNat_of_zero_le a0
        have hy7 := t7.1 _ _ TL6.ne hy
        have TL7 := (TL6.to t7).put (k := k7) hy7 (tq := tq) (t := t) ⟨tq, rfl, t7.tup TL6.pool hq6⟩ okt
        refine ⟨_, rfl, tl, ys, k7, .ref tq, rfl, rfl, hy7, small_lt (by omega), by omega, by omega, ?_⟩
        rw [Int.toNat_natCast]
        exact ⟨pool_put (T6.trans t7) TL6.ne tln, putT Ts k7 t, _, _, _, _, _, _, _, _, TL7, by rw [putT_len]; omega, rfl⟩
      · rintro σ H3 ⟨T3, Ts, r5, r6, r7, r8, r9, r10, r11, r12, TLs, lTs, rfl⟩
        exact hR _ _ ⟨T3, Ts, _, _, _, _, _, _, _, _, TLs, by omega, rfl⟩
    · exact hR _ _ ⟨T2.trans t2, [], _, _, _, _, _, _, _, _, TL0.to t2, Nat.zero_le _, rfl⟩
  obtain ⟨T3, Ts, r5, r6, r7, r8, r9, r10, r11, r12, TLs, l5, rfl⟩ := hp1
  refine seq_cut (fun σ' H' => PoolTo p H H' ∧ TL K p tl n Ts H' ∧ ∃ mr : Nat, mr ≤ 6 ∧ σ' = [some (.ref p), some (nI m), some (nI n), some (.int tp), some (.ref tl), r5, r6, r7, some (nI mr), r9, r10, r11, r12]) (fun σ' H' hp1 => ?_) (fun R hR => ?_)
  rotate_left
  · refine ⟨small_size (show 7 ≤ 1000 by decide), fun l0 hl0 => ?_⟩
    have u0 := same_upd (o := .lst [.int 3, .int 1, .int 4, .int 2, .int 0, .int 5, .int 6]) hl0
    have T4 := T3.upd (o := .lst [.int 3, .int 1, .int 4, .int 2, .int 0, .int 5, .int 6]) hl0
    refine ⟨_, rfl, p, _, rfl, T4.2, by decide, bd64 (by decide), fun H4 d4 t4 a b => ?_⟩
    have lp : l0 ≠ p := fun z => by
      obtain ⟨xs, e, _⟩ := T3.2
      rw [z, e] at hl0
      cases hl0
    have h1 := t4.1 l0 _ lp upd_same
    obtain ⟨v, hv, hmv⟩ := atI_some (xs := ([.int 3, .int 1, .int 4, .int 2, .int 0, .int 5, .int 6] : List V)) a (by simpa using b)
    obtain ⟨mr, rfl, m6⟩ : ∃ mr : Nat, v = nI mr ∧ mr ≤ 6 := by
      simp only [List.mem_cons, List.mem_nil_iff, or_false] at hmv
      rcases hmv with e | e | e | e | e | e | e
      · exact ⟨3, e, by decide⟩
      · exact ⟨1, e, by decide⟩
      · exact ⟨4, e, by decide⟩
      · exact ⟨2, e, by decide⟩
      · exact ⟨0, e, by decide⟩
      · exact ⟨5, e, by decide⟩
      · exact ⟨6, e, by decide⟩
    exact ⟨l0, _, _, _, rfl, rfl, SqL.of h1, hv, hR _ _ ⟨T4.trans t4, (TLs.same u0).to t4, mr, m6, rfl⟩⟩
  obtain ⟨T4, TL4, mr, m6, rfl⟩ := hp1
  refine seq_cut (fun σ' H' => PoolTo p H H' ∧ TL K p tl n Ts H' ∧ ∃ mr : Nat, mr ≤ 6 ∧ (n = 1 → mr = 0) ∧ σ' = [some (.ref p), some (nI m), some (nI n), some (.int tp), some (.ref tl), r5, r6, r7, some (nI mr), r9, r10, r11, r12]) (fun σ' H' hp1 => ?_) (fun R hR => ?_)
  rotate_left
  · refine ⟨_, rfl, rfl, _, rfl, ite2 (fun c => ?_) (fun c => ?_)⟩
    · exact hR _ _ ⟨T4, TL4, 0, by decide, fun _ => rfl, rfl⟩
    · refine hR _ _ ⟨T4, TL4, mr, m6, fun z => absurd ?_ c, rfl⟩
      rw [z]
      exact decide_eq_true rfl
  obtain ⟨T5, TL5, mr, m6, mz, rfl⟩ := hp1
  refine ⟨_, rfl, mr, rfl, by omega, by omega, for_range (n := mr) (fun i σ H' => PoolTo p H H' ∧ ∃ (Ts : List Tie) (s7 r9 r10 r11 r12 : Option V), TL K p tl n Ts H' ∧ Ts.length ≤ 10 ∧ σ = [some (.ref p), some (nI m), some (nI n), some (.int tp), some (.ref tl), r5, r6, s7, some (nI mr), r9, r10, r11, r12]) ?_ ?_ ?_⟩
  · exact ⟨T5, Ts, _, _, _, _, _, TL5, by omega, rfl⟩
  · clear TL5 T5 l5 TL4 T4 TLs T3
    rintro i σ H3 hi ⟨T3, Ts, s7, r9, r10, r11, r12, TLs, lTs, rfl⟩
    have n2 : 2 ≤ n := by
      by_cases c : n = 1
      · have := mz c
        omega
      · omega
    obtain ⟨ys0, hy0, hr0⟩ := TLs.ex
    refine ⟨_, rfl, tl, _, rfl, .inl (.inl (.inl hy0)), _, rfl, _, _, rfl, rfl, _, rfl, ite2 (fun c => ?_) (fun c => ?_)⟩
    · have c1 := of_decide_eq_true c
      have ly0 := rows_len hr0
      refine ⟨_, rfl, _, rfl, p, _, rfl, T3.2, by omega, bd64 (by omega), fun H4 f t4 f0 f1 => ?_⟩
      obtain ⟨ft, rfl⟩ := Int.eq_ofNat_of_zero_le f0
      have T4 := T3.trans t4
      have TL4 := TLs.to t4
      refine ⟨_, rfl, _, _, rfl, rfl, _, rfl, _, rfl, _, _, rfl, rfl, p, _, rfl, T4.2, by omega, bd64 (by omega), fun H5 d t5 d0 d1 => ?_⟩
      obtain ⟨dt, rfl⟩ := Int.eq_ofNat_of_zero_le d0
      have T5 := T4.trans t5
      have TL5 := TL4.to t5
      obtain ⟨sc, es, s1, s2⟩ := sec_ok (n := n) (f := ft) (d := dt) (by omega) (by omega)
      refine ⟨_, _, rfl, rfl, .inl ⟨_, rfl, _, rfl, _, _, rfl, rfl, (show (n : Int) ≠ 0 by omega), ?_⟩⟩
      dsimp only
      rw [es]
      refine ⟨_, rfl, _, rfl, _, rfl, _, rfl, p, _, rfl, T5.2, tp0, btp, fun H6 wt t6 w0 w1 => ⟨_, _, rfl, rfl, small_size (show 3 ≤ 1000 by decide), fun tq htq => ?_⟩⟩
      have u6 := same_upd (o := .tup [nI ft, nI sc, .int (1 + wt)]) htq
      have T6 := (T5.trans t6).upd (o := .tup [nI ft, nI sc, .int (1 + wt)]) htq
      have TL6 := (TL5.to t6).same u6
      have hq6 : SqT K (upd H6 tq (.tup [nI ft, nI sc, .int (1 + wt)])) tq [nI ft, nI sc, .int (1 + wt)] := .inl (.inl upd_same)
      obtain ⟨ys, hy, hr'⟩ := TL6.ex
      have ly := rows_len hr'
      refine ⟨_, rfl, _, rfl, tl, _, rfl, .inl (.inl (.inl hy)), _, _, rfl, rfl, p, _, rfl, T6.2, by omega, bd64 (by omega), fun H7 at' t7 a0 a1 => ?_⟩
      obtain ⟨k7, rfl⟩ := Int.eq_ofNat_of_zero_le a0
      have hy7 := t7.1 _ _ TL6.ne hy
      have TL7 := (TL6.to t7).put (k := k7) hy7 (tq := tq) (t := (ft, sc, 1 + wt)) ⟨tq, rfl, t7.tup TL6.pool hq6⟩ ⟨by show ft < n; omega, s1, s2, by show 0 < 1 + wt; omega⟩
      refine ⟨_, rfl, .inl ⟨rfl, _, SqL.of hy7⟩, _, rfl, _, rfl, tl, ys, k7, .ref tq, rfl, rfl, hy7, small_lt (by omega), by omega, by omega, ?_⟩
      rw [Int.toNat_natCast]
      exact ⟨pool_put (T6.trans t7) TL6.ne tln, putT Ts k7 (ft, sc, 1 + wt), _, _, _, _, _, TL7, by rw [putT_len]; omega, rfl⟩
    · exact ⟨T3, Ts, _, _, _, _, _, TLs, lTs, rfl⟩
  · rintro σ H3 ⟨T3, Ts, s7, r9, r10, r11, r12, TLs, lTs, rfl⟩
    obtain ⟨ys, hy, hr'⟩ := TLs.ex
    refine ⟨_, rfl, _, rfl, small_size (show 2 ≤ 1000 by decide), fun z hz => ?_⟩
    have u := same_upd (o := .lst [nI n, .ref tl]) hz
    exact hq _ z tl n ys Ts (T3.upd hz) upd_same (u _ _ hy) (hr'.same u) ⟨n1, n6, lTs, TLs.ok⟩
end
end K3
namespace K3
open PySem PySem.Spec PyProof.Rows L2 He HX KG
section
variable {P : Program} {w : World} {K : PySem.W.Frag} {mg : Str → Option Value} {base : Heap}
def NN_base_flows : List PySem.Str := ["web", "tree", "free", "ways", "flows", "index", "first", "second", "_", "back", "one", "other"]
theorem sc_base_flows : FnScope NN_base_flows ["web"] (defScope (top 17)) := ⟨rfl, rfl, rfl, by decide +kernel, rfl, by decide +kernel, by decide +kernel⟩
theorem ok_base_flows (h : HK K mg) (c_tree_and_free : Cal P w K mg base 2 "tree_and_free" ["web"] (sp_tree_and_free K)) (c_ways_home : Cal P w K mg base 2 "ways_home" ["web", "tree"] (sp_ways_home K)) (c_with_number : Cal P w K mg base 1 "with_number" ["flow", "index", "number"] (sp_with_number K)) : Cal P w K mg base 3 "base_flows" ["web"] (sp_base_flows K) := by
  have F : FunD K "base_flows" "base_flows" (defArgs (top 17)) (defBody (top 17)) (defScope (top 17)) [] [] (ga K "base_flows") (fdA K (ga K "base_flows")) := h.says.funD 10
  have wf := h.wf
  have G : FnOk P w K mg base (L2.CX P w) (2 + 1) (ga K "base_flows") (fdA K (ga K "base_flows")) ["web"] (sp_base_flows K) := okX F sc_base_flows (fun vs H Q E hs => by (repeat (obtain ⟨_, hs⟩ := hs)) <;> subst_vars <;> rfl) (fun cdv A outer s H vs Q E hr hs => ?_)
  · exact ⟨G, h.glo _, F.kp, F.bindsN (fun _ _ _ _ _ _ us hl => match us, hl with | [_], _ => rfl)⟩
  refine ⟨_, (pss_cons (ps_asg (pe_cal c_tree_and_free hr passL (pa_cons (pv 0) pa_nil)) (pg_tup (by rfl) (pgs_cons (pg_name (i := 1) sc_base_flows.nd rfl (by first | exact Or.inl rfl | exact Or.inr rfl)) (pgs_cons (pg_name (i := 2) sc_base_flows.nd rfl (by first | exact Or.inl rfl | exact Or.inr rfl)) pgs_nil))))
      (pss_cons (ps_set (i := 3) sc_base_flows.nd rfl (by first | exact Or.inl rfl | exact Or.inr rfl) (pe_cal c_ways_home hr passL (pa_cons (pv 0) (pa_cons (pv 1) pa_nil))))
      (pss_cons (ps_set (i := 4) sc_base_flows.nd rfl (by first | exact Or.inl rfl | exact Or.inr rfl) (pe_lst pa_nil))
      (pss_cons (ps_for (passes_of rfl) (by rfl) (pi_list (pv 2)) (pg_name (i := 5) sc_base_flows.nd rfl (by first | exact Or.inl rfl | exact Or.inr rfl))
        (pss_cons (ps_asg (pe_ix ix_tup (pe_fld (pv 0) (by rfl)) (pv 5) (fun _ _ => rfl)) (pg_tup (by rfl) (pgs_cons (pg_name (i := 6) sc_base_flows.nd rfl (by first | exact Or.inl rfl | exact Or.inr rfl)) (pgs_cons (pg_name (i := 7) sc_base_flows.nd rfl (by first | exact Or.inl rfl | exact Or.inr rfl)) (pgs_cons (pg_name (i := 8) sc_base_flows.nd rfl (by first | exact Or.inl rfl | exact Or.inr rfl)) pgs_nil)))))
        (pss_cons (ps_setLc (i := 9) (own := [("one", 10), ("other", 11)]) (by rfl) sc_base_flows.nd rfl rfl (sw_true rfl rfl rfl (by decide +kernel)) (pi_zip (by rfl) (h.free "zip") (pa_cons (pe_ix ix_list (pv 3) (pv 7) (fun _ _ => rfl)) (pa_cons (pe_ix ix_list (pv 3) (pv 6) (fun _ _ => rfl)) pa_nil))) (blkOk_by (own := [("one", 10), ("other", 11)]) (N := NN_base_flows) (sc := defScope (top 17)) (by decide +kernel)) (fun _ _ _ _ _ => by exact (pg_tupK K rfl (n := 2) (by rfl) (pgs_cons (pg_name (i := 10) sc_base_flows.nd rfl (by first | exact Or.inl rfl | exact Or.inr rfl)) (pgs_cons (pg_name (i := 11) sc_base_flows.nd rfl (by first | exact Or.inl rfl | exact Or.inr rfl)) pgs_nil)))) (fun _ _ _ _ _ => by exact pts_nil) (fun _ _ _ _ _ => by exact (pe_op op_sub (pv 10) (pv 11))))
        (pss_one (ps_expr (pe_bm PySem.F.plainAttrs_list PySem.F.slot_list_append PySem.F.type_list_append mt_append (pv 4) (pa_cons (pe_cal c_with_number hr passL (pa_cons (pv 9) (pa_cons (pv 5) (pa_cons pe_int pa_nil)))) pa_nil)))))))
      (pss_one (ps_ret (pv 4))))))), ?_⟩
  obtain ⟨a, n, Ts, rfl, hw, gw, jn, hq⟩ := hs
  have lT := gw.len
  have hT := gw.ok.inn
  refine ⟨_, rfl, a, n, Ts, rfl, hw, gw, fun H1 q tr fr tree F ms S1 hq1 htr hfr tF lF => ?_⟩
  refine ⟨q, _, rfl, hq1, rfl, _, _, rfl, _, _, rfl, rfl, ?_⟩
  refine ⟨_, rfl, _, rfl, a, tr, n, Ts, tree, rfl, hw.same S1, gw, htr, tF.ltT, fun H2 wr ws S2 hwr hW => ?_⟩
  obtain ⟨U, W, aw⟩ := ways_all gw jn tF
  have S12 := S1.trans S2
  have wlen : ws.length = n := by rw [hW.1, W.len]
  generalize wPasses (arcs Ts) tree tree.length (ws0 n Ts.length) = Wd at hW W aw
  obtain ⟨dx, t, xs, ha, ht, hx⟩ := id (hw.same S12)
  have lx := rows_len hx
  refine ⟨size0, fun fl hfl => ?_⟩
  have S3 := same_upd (o := .lst []) hfl
  have hfr2 := S2.seq hfr
  refine ⟨_, rfl, fr, rfl, ⟨_, S3.seq hfr2⟩, for_list (K := K) (a := fr) (xs := nL F) (fun i σ H' => Same H2 H' ∧ ∃ (fs : List (List Int)) (ys : List V) (r5 r6 r7 r8 r9 r10 r11 : Option V), σ = [some (.ref a), some (.ref tr), some (.ref fr), some (.ref wr), some (.ref fl), r5, r6, r7, r8, r9, r10, r11] ∧ H' fl = some (.lst ys) ∧ ListsX fl H' ys fs ∧ fs.length = i ∧
    ∀ (k f : Nat), k < i → F[k]? = some f → ∀ a b wa wb, (arcs Ts)[f]? = some (a, b) → At Wd a wa → At Wd b wb → fs[k]? = some (flowL f wa wb)) ?_ ?_ ?_ ?_⟩
  · exact ⟨S3, [], [], _, _, _, _, _, _, _, rfl, upd_same, .nil, rfl, fun k f hk => absurd hk (Nat.not_lt_zero _)⟩
  · rintro i σ H' _ ⟨S, _⟩
    exact S.seq hfr2
  · rintro i v σ H' hi ⟨S, fs, ys, r5, r6, r7, r8, r9, r10, r11, rfl, h1, h2, h3, h4⟩
    obtain ⟨f, hf, rfl⟩ := nL_get hi
    have flt := (tF.ltF f (List.mem_of_getElem? hf)).1
    have hiF : i < F.length := (List.getElem?_eq_some_iff.mp hf).1
    have exi : xs[f]? = some (xs[f]'(by omega)) := List.getElem?_eq_getElem (by omega)
    obtain ⟨tt, q2, ht', e0, hq'⟩ := tie_get (hx.same S) exi
    rw [e0] at exi
    have ab := in_at hT ht'
    have e := arcs_at ht'
    obtain ⟨wa, a1⟩ := aw _ ab.1
    obtain ⟨wb, a2⟩ := aw _ ab.2
    have la := W.wl _ _ a1
    have lb := W.wl _ _ a2
    rw [show (arcs Ts).length = Ts.length by simp] at la lb
    have y1 : ws[tt.1]? = some (ws[tt.1]'(by omega)) := List.getElem?_eq_getElem (by omega)
    have y2 : ws[tt.2.1]? = some (ws[tt.2.1]'(by omega)) := List.getElem?_eq_getElem (by omega)
    obtain ⟨l1, g1, k1⟩ := (hW.2 _ _ _ y1 a1).2 wa rfl
    obtain ⟨l2, g2, k2⟩ := (hW.2 _ _ _ y2 a2).2 wb rfl
    rw [g1] at y1
    rw [g2] at y2
    have hwr' := S _ _ hwr
    refine ⟨_, rfl, a, _, dx, _, _, rfl, S _ _ ha, wf.cls, wf.no _ (by decide +kernel), rfl, _, rfl, t, _, _, _, rfl, rfl, S.tup ht, atI_nat exi, q2, _, rfl, hq', rfl, _, _, rfl, _, _, rfl, _, _, rfl, rfl, ?_⟩
    refine ⟨_, rfl, _, rfl, wr, _, _, _, rfl, rfl, .inl (.inl hwr'), atI_nat y2, _, rfl, _, rfl, wr, _, _, _, rfl, rfl, .inl (.inl hwr'), atI_nat y1, l2, l1, iL wb, iL wa, rfl, S.seq k2, S.seq k1, fun D hD => lc_it (walk_zip (K := K) (a := l2) (b := l1) (xs := iL wb) (ys := iL wa) (n := Ts.length) (by rw [len_iL, len_iL, la, lb, Nat.min_self])) (fun j G => (∀ b o, b ≠ D → H' b = some o → G b = some o) ∧ G D = some (.lst (iL ((subL wb wa).take j)))) ?_ ?_ ?_ ?_⟩
    · refine ⟨fun b o ne q => ?_, upd_same⟩
      rw [upd_ne ne]
      exact q
    · rintro j G _ ⟨kp, _⟩
      exact ⟨Same.seq (fun b o q => kp b o (ne_of_none q hD) q) (S.seq k2), Same.seq (fun b o q => kp b o (ne_of_none q hD) q) (S.seq k1)⟩
    · rintro j x G G' hj ⟨kp, hd⟩ ⟨T, x1, x2, rfl, nT, rfl, e1, e2⟩
      obtain ⟨c1, m1, rfl⟩ := iL_get e1
      obtain ⟨c2, m2, rfl⟩ := iL_get e2
      have u := same_upd (o := .tup [.int c1, .int c2]) nT
      refine ⟨T, _, rfl, .inl (.inl upd_same), rfl, _, _, rfl, _, _, rfl, rfl, rfl, _, rfl, _, rfl, _, _, rfl, rfl, _, u _ _ hd, small_lt (by rw [len_iL, List.length_take]; omega), fun b o ne q => ?_, ?_⟩
      · rw [upd_ne ne]
        exact u _ _ (kp b o ne q)
      · rw [upd_same, iL_take_snoc (subL_at m1 m2)]
    rintro G ⟨kp, hd⟩
    have ls : (subL wb wa).length = Ts.length := by
      unfold subL
      rw [List.length_zipWith, la, lb, Nat.min_self]
    rw [List.take_of_length_le (by omega)] at hd
    have SG : Same H' G := fun b o q => kp b o (ne_of_none q hD) q
    have SG2 := S.trans SG
    have nfl : H2 fl = none := hfl
    refine ⟨_, rfl, .inl ⟨rfl, _, SqL.of (SG _ _ h1)⟩, _, rfl, _, rfl, D, _, f, 1, rfl, .inl (.inl hd), by omega, by omega, fun G2 r S5 nr hr => ?_⟩
    have rfl' : r ≠ fl := fun z => by
      rw [z, SG _ _ h1] at nr
      cases nr
    refine ⟨fl, _, _, rfl, rfl, S5 _ _ (SG _ _ h1), small_lt (by rw [h2.1]; omega), ?_⟩
    have up : ∀ b o, b ≠ fl → G2 b = some o → (upd G2 fl (.lst (ys ++ [.ref r]))) b = some o := fun b o ne q => by
      rw [upd_ne ne]
      exact q
    refine ⟨fun b o q => up b o (ne_of_none q nfl) (S5 _ _ (SG2 _ _ q)), fs ++ [flowL f wa wb], _, _, _, _, _, _, _, _, rfl, upd_same, ?_, by simp [h3], fun k f' hk ef a' b' wa' wb' ea qa qb => ?_⟩
    · exact ((h2.keep fun b o _ q => S5 _ _ (SG _ _ q)).keep up).snoc (up _ _ rfl' hr) rfl'
    · by_cases c : k < i
      · rw [List.getElem?_append_left (by omega)]
        exact h4 k f' c ef a' b' wa' wb' ea qa qb
      · obtain rfl : k = i := by omega
        rw [hf] at ef
        cases ef
        rw [e] at ea
        cases ea
        unfold At at a1 a2 qa qb
        rw [a1] at qa
        rw [a2] at qb
        cases qa
        cases qb
        rw [List.getElem?_append_right (by omega), h3, Nat.sub_self]
        rfl
  · rintro σ H' ⟨S, fs, ys, r5, r6, r7, r8, r9, r10, r11, rfl, h1, h2, h3, h4⟩
    rw [len_nL] at h3 h4
    exact ⟨_, rfl, hq _ fl ys fs (S12.trans S) h1 h2.lists (by omega) (flows_of gw tF W aw h3 fun k f e => h4 k f (List.getElem?_eq_some_iff.mp e).1 e)⟩
end
end K3
namespace K3
open PySem PySem.Spec PyProof.Rows L2 He HX KG
section
variable {P : Program} {w : World} {K : PySem.W.Frag} {mg : Str → Option Value} {base : Heap}
def NN_bridges : List PySem.Str := ["web", "index", "_", "reading"]
theorem sc_bridges : FnScope NN_bridges ["web"] (defScope (top 19)) := ⟨rfl, rfl, rfl, by decide +kernel, rfl, by decide +kernel, by decide +kernel⟩
theorem ok_bridges (h : HK K mg) (c_flow_pairs : Cal P w K mg base 4 "flow_pairs" ["web"] (sp_flow_pairs K)) (c_look_joined : Cal P w K mg base 7 "look_joined" ["web"] (sp_look_joined K)) : Cal P w K mg base 8 "bridges" ["web"] (sp_bridges K) := by
  have F : FunD K "bridges" "bridges" (defArgs (top 19)) (defBody (top 19)) (defScope (top 19)) [] [] (ga K "bridges") (fdA K (ga K "bridges")) := h.says.funD 12
  have wf := h.wf
  have G : FnOk P w K mg base (L2.CX P w) (7 + 1) (ga K "bridges") (fdA K (ga K "bridges")) ["web"] (sp_bridges K) := okX F sc_bridges (fun vs H Q E hs => by (repeat (obtain ⟨_, hs⟩ := hs)) <;> subst_vars <;> rfl) (fun cdv A outer s H vs Q E hr hs => ?_)
  · exact ⟨G, h.glo _, F.kp, F.bindsN (fun _ _ _ _ _ _ us hl => match us, hl with | [_], _ => rfl)⟩
  refine ⟨_, (pss_cons (ps_expr (pe_cal c_look_joined hr passL (pa_cons (pv 0) pa_nil)))
      (pss_one (ps_ret (pe_callTy call_tuple_of (by rfl) (h.free "tuple") (by decide +kernel) (pa_cons (pe_lc (own := [("index", 1), ("_", 2), ("reading", 3)]) (by rfl) sc_bridges.nd (pi_enum (by rfl) (h.free "enumerate") (pa_cons (pe_cal c_flow_pairs hr passL (pa_cons (pv 0) pa_nil)) pa_nil)) (blkOk_by (own := [("index", 1), ("_", 2), ("reading", 3)]) (N := NN_bridges) (sc := defScope (top 19)) (by decide +kernel)) (fun _ _ _ _ _ => by exact (pg_tupK K rfl (n := 2) (by rfl) (pgs_cons (pg_name (i := 1) sc_bridges.nd rfl (by first | exact Or.inl rfl | exact Or.inr rfl)) (pgs_cons (pg_tupK K rfl (n := 2) (by rfl) (pgs_cons (pg_name (i := 2) sc_bridges.nd rfl (by first | exact Or.inl rfl | exact Or.inr rfl)) (pgs_cons (pg_name (i := 3) sc_bridges.nd rfl (by first | exact Or.inl rfl | exact Or.inr rfl)) pgs_nil))) pgs_nil)))) (fun _ _ _ _ _ => by exact (pts_one (pt_not (pt_val (pe_callB (cr_anyIK K rfl rfl) (by rfl) (h.free "any") (by decide +kernel) (pa_cons (pv 3) pa_nil)))))) (fun _ _ _ _ _ => by exact (pv 1))) pa_nil))))), ?_⟩
  obtain ⟨a, n, Ts, rfl, hw, gw, jn, hq⟩ := hs
  have lT := gw.len
  refine ⟨_, rfl, a, n, Ts, rfl, hw, gw, fun _ H1 S1 => ?_, fun nj => absurd jn nj⟩
  refine ⟨_, rfl, a, n, Ts, rfl, hw.same S1, gw, jn, fun H2 r xs fl S2 hr hl hv hF => ?_⟩
  have la : (arcs Ts).length = Ts.length := by simp
  refine ⟨r, xs, rfl, .inl (.inl hr), fun D hD => lc_it (walk_enum (K := K) (a := r) (xs := xs)) (fun i G => (∀ b o, b ≠ D → H2 b = some o → G b = some o) ∧ G D = some (.lst (nL ((List.range i).filter fun i => !@decide (∀ v, v < n → Con ((arcs Ts).eraseIdx i) 0 v) (Classical.propDecidable _))))) ?_ ?_ ?_ ?_⟩
  · refine ⟨fun b o ne q => ?_, upd_same⟩
    rw [upd_ne ne]
    exact q
  · rintro i G _ ⟨kp, _⟩
    exact .inl (.inl (kp _ _ (ne_of_none hr hD) hr))
  · rintro i x G G' hi ⟨kp, hd⟩ ⟨T, x1, x2, rfl, nT, rfl, e1, e2⟩
    cases e1
    have S3 : Same H2 G := fun b o q => kp b o (ne_of_none q hD) q
    obtain ⟨p, q, u', rfl, hp, hq'⟩ := hv i x2 e2
    have u := same_upd (o := .tup [.int (i : Nat), .ref p]) nT
    have S4 := S3.trans u
    refine ⟨T, _, rfl, .inl (.inl upd_same), rfl, _, _, rfl, _, _, rfl, p, _, rfl, S4.tup hp, rfl, _, _, rfl, _, _, rfl, rfl, rfl, rfl, ?_⟩
    refine ⟨_, rfl, q, _, rfl, S4.tup hq', _, rfl, ?_⟩
    have key : (!((fl.map fun f => f.getD i 0).any (· != 0))) = !@decide (∀ v, v < n → Con ((arcs Ts).eraseIdx i) 0 v) (Classical.propDecidable _) := by
      rw [Bool.eq_iff_iff, any_ne0]
      have h1 := hF.2 i (by omega)
      constructor
      · intro h
        have := h1.mp fun f m => h _ (List.mem_map.mpr ⟨f, m, rfl⟩)
        simpa using this
      · intro h x m
        obtain ⟨f, mf, rfl⟩ := List.mem_map.mp m
        exact h1.mpr (by simpa using h) f mf
    have hd' := u _ _ hd
    rw [List.range_succ, List.filter_append]
    refine ite2 (fun c => ?_) (fun c => ?_)
    · rw [key] at c
      refine ⟨_, rfl, _, hd', small_lt (by rw [len_nL]; exact Nat.le_trans (List.length_filter_le _ _) (by rw [List.length_range]; omega)), fun b o ne q0 => ?_, ?_⟩
      · rw [upd_ne ne]
        exact u _ _ (kp b o ne q0)
      · rw [upd_same, show List.filter (fun i => !@decide (∀ v, v < n → Con ((arcs Ts).eraseIdx i) 0 v) (Classical.propDecidable _)) [i] = [i] by rw [List.filter_cons, if_pos c]; rfl, nL_snoc]
    · rw [key] at c
      refine ⟨fun b o ne q0 => u _ _ (kp b o ne q0), ?_⟩
      rw [show List.filter (fun i => !@decide (∀ v, v < n → Con ((arcs Ts).eraseIdx i) 0 v) (Classical.propDecidable _)) [i] = [] by rw [List.filter_cons, if_neg c]; rfl, List.append_nil]
      exact hd'
  · rintro G ⟨kp, hd⟩
    have S3 : Same H2 G := fun b o q => kp b o (ne_of_none q hD) q
    rw [hl] at hd
    refine ⟨D, _, rfl, .inl ⟨.inl (.inl hd), fun w1 hw1 => hq _ w1 (((S1.trans S2).trans S3).trans (same_upd hw1)) (.inl (.inl ?_))⟩⟩
    rw [upd_same]
    unfold idleL
    rw [la]
    refine congrArg some (congrArg HO.tup (congrArg nL (congrArg (fun p => List.filter p _) (funext fun i => ?_))))
    exact congrArg not (decide_eq_decide.mpr Iff.rfl)
end
end K3
namespace K3
open PySem PySem.Spec PyProof.Rows L2 He HX KG
section
variable {P : Program} {w : World} {K : PySem.W.Frag} {mg : Str → Option Value} {base : Heap}
def NN_flow_pairs : List PySem.Str := ["web", "flows", "flow", "index", "tie"]
theorem sc_flow_pairs : FnScope NN_flow_pairs ["web"] (defScope (top 18)) := ⟨rfl, rfl, rfl, by decide +kernel, rfl, by decide +kernel, by decide +kernel⟩
theorem ok_flow_pairs (h : HK K mg) (c_base_flows : Cal P w K mg base 3 "base_flows" ["web"] (sp_base_flows K)) : Cal P w K mg base 4 "flow_pairs" ["web"] (sp_flow_pairs K) := by
  have F : FunD K "flow_pairs" "flow_pairs" (defArgs (top 18)) (defBody (top 18)) (defScope (top 18)) [] [] (ga K "flow_pairs") (fdA K (ga K "flow_pairs")) := h.says.funD 11
  have wf := h.wf
  have G : FnOk P w K mg base (L2.CX P w) (3 + 1) (ga K "flow_pairs") (fdA K (ga K "flow_pairs")) ["web"] (sp_flow_pairs K) := okX F sc_flow_pairs (fun vs H Q E hs => by (repeat (obtain ⟨_, hs⟩ := hs)) <;> subst_vars <;> rfl) (fun cdv A outer s H vs Q E hr hs => ?_)
  · exact ⟨G, h.glo _, F.kp, F.bindsN (fun _ _ _ _ _ _ us hl => match us, hl with | [_], _ => rfl)⟩
  refine ⟨_, (pss_cons (ps_set (i := 1) sc_flow_pairs.nd rfl (by first | exact Or.inl rfl | exact Or.inr rfl) (pe_cal c_base_flows hr passL (pa_cons (pv 0) pa_nil)))
      (pss_one (ps_ret (pe_lc (own := [("index", 3), ("tie", 4)]) (by rfl) sc_flow_pairs.nd (pi_enumT (by rfl) (h.free "enumerate") (pa_cons (pe_fld (pv 0) (by rfl)) pa_nil)) (blkOk_by (own := [("index", 3), ("tie", 4)]) (N := NN_flow_pairs) (sc := defScope (top 18)) (by decide +kernel)) (fun _ _ _ _ _ => by exact (pg_tupK K rfl (n := 2) (by rfl) (pgs_cons (pg_name (i := 3) sc_flow_pairs.nd rfl (by first | exact Or.inl rfl | exact Or.inr rfl)) (pgs_cons (pg_name (i := 4) sc_flow_pairs.nd rfl (by first | exact Or.inl rfl | exact Or.inr rfl)) pgs_nil)))) (fun _ _ _ _ _ => by exact pts_nil) (fun _ _ _ _ _ => by exact (pe_tup (pa_cons (pe_ix (ix_tupK K rfl) (pv 4) pe_int (fun _ _ => rfl)) (pa_cons (pe_callTy (call_tuple_ofK K rfl) (by rfl) (h.free "tuple") (by decide +kernel) (pa_cons (pe_lc (own := [("flow", 2)]) (by rfl) sc_flow_pairs.nd (pi_listK K rfl (pv 1)) (blkOk_by (own := [("flow", 2)]) (N := NN_flow_pairs) (sc := relS (_) (defScope (top 18))) (by decide +kernel)) (fun _ _ _ _ _ => by exact (pg_name (i := 2) sc_flow_pairs.nd rfl (by first | exact Or.inl rfl | exact Or.inr rfl))) (fun _ _ _ _ _ => by exact pts_nil) (fun _ _ _ _ _ => by exact (pe_ix (ix_listK K rfl) (pv 2) (pv 3) (fun _ _ => rfl)))) pa_nil)) pa_nil)))))))), ?_⟩
  obtain ⟨a, n, Ts, rfl, hw, gw, jn, hq⟩ := hs
  have lT := gw.len
  refine ⟨_, rfl, a, n, Ts, rfl, hw, gw, jn, fun H1 r fs fl S1 hr hL lf hF => ?_⟩
  obtain ⟨dx, t, xs, ha, ht, hx⟩ := id (hw.same S1)
  have lx := rows_len hx
  refine ⟨_, rfl, a, _, dx, _, _, rfl, ha, wf.cls, wf.no _ (by decide +kernel), rfl, t, xs, rfl, ht, fun D hD => lc_it (walk_enumT (K := K) (a := t) (xs := xs)) (fun i G => (∀ b o, b ≠ D → H1 b = some o → G b = some o) ∧ ∃ acc, G D = some (.lst acc) ∧ acc.length = i ∧ ∀ (j : Nat) (v : V), acc[j]? = some v → ∃ p q u, v = .ref p ∧ SqT K G p [u, .ref q] ∧ SqT K G q (iL (fl.map fun f => f.getD j 0))) ?_ ?_ ?_ ?_⟩
  · refine ⟨fun b o ne q => ?_, [], upd_same, rfl, fun j v e => by simp at e⟩
    rw [upd_ne ne]
    exact q
  · rintro i G _ ⟨kp, _⟩
    exact Same.tup (fun b o q => kp b o (ne_of_none q hD) q) ht
  · rintro i x G G' hi ⟨kp, acc, hd, la, hv⟩ ⟨T, x1, x2, rfl, nT, rfl, e1, e2⟩
    cases e1
    have S2 : Same H1 G := fun b o q => kp b o (ne_of_none q hD) q
    obtain ⟨tt, q, ht', rfl, hq'⟩ := tie_get (hx.same S2) e2
    have u := same_upd (o := .tup [.int (i : Nat), .ref q]) nT
    refine ⟨T, _, rfl, .inl (.inl upd_same), rfl, _, _, rfl, _, _, rfl, rfl, rfl, ?_⟩
    refine ⟨_, rfl, q, _, _, _, rfl, rfl, u.tup hq', atI_nat (j := 2) rfl, ?_⟩
    have hr' := (S2.trans u) _ _ hr
    refine ⟨_, rfl, r, rfl, ⟨_, .inl (.inl hr')⟩, fun Z hZ => lc_list (K := K) (a := r) (xs := fs) (fun j G2 => G2 = upd (upd G T (.tup [.int (i : Nat), .ref q])) Z (.lst ((fl.take j).map fun f => V.int (f.getD i 0)))) rfl ?_ ?_ ?_⟩
    · rintro j G2 _ rfl
      exact (same_upd hZ).seq (.inl (.inl hr'))
    · rintro j v G2 hj rfl
      have hj' : j < fl.length := by
        rw [← hL.1]
        exact (List.getElem?_eq_some_iff.mp hj).1
      have ef : fl[j]? = some fl[j] := List.getElem?_eq_getElem hj'
      obtain ⟨l, rfl, hl⟩ := hL.2 j v _ hj ef
      have lf1 := hF.1 _ (List.mem_of_getElem? ef)
      rw [show (arcs Ts).length = Ts.length by simp] at lf1
      have eg : fl[j][i]? = some (fl[j].getD i 0) := by
        rw [List.getD_eq_getElem?_getD, List.getElem?_eq_getElem (by omega)]
        rfl
      exact ⟨rfl, _, rfl, _, rfl, l, _, _, _, rfl, rfl, ((S2.trans u).trans (same_upd hZ)).seq hl, iL_atI eg, lcs ef (by omega) rfl⟩
    · rintro G2 rfl
      rw [hL.1, List.take_length]
      have S4 := same_upd (H := upd G T (.tup [.int (i : Nat), .ref q])) (o := .lst (fl.map fun f => V.int (f.getD i 0))) hZ
      refine ⟨Z, _, rfl, .inl ⟨.inl (.inl upd_same), fun w1 hw1 => ?_⟩⟩
      have S5 := S4.trans (same_upd (o := .tup (fl.map fun f => V.int (f.getD i 0))) hw1)
      refine ⟨small_size (show 2 ≤ 1000 by decide), fun p hp => ?_⟩
      have S6 := S5.trans (same_upd (o := .tup [.int tt.2.2, .ref w1]) hp)
      have S7 := u.trans S6
      refine ⟨acc, S7 _ _ hd, small_lt (by omega), fun b o ne q0 => ?_, acc ++ [.ref p], upd_same, by simp [la], fun j v e => ?_⟩
      · rw [upd_ne ne]
        exact S7 _ _ (kp b o ne q0)
      · have hd7 := S7 _ _ hd
        have mv : ∀ {b : Addr} {zs : List V}, SqT K G b zs → SqT K (upd (upd (upd (upd (upd G T (.tup [.int (i : Nat), .ref q])) Z (.lst (fl.map fun f => V.int (f.getD i 0)))) w1 (.tup (fl.map fun f => V.int (f.getD i 0)))) p (.tup [.int tt.2.2, .ref w1])) D (.lst (acc ++ [.ref p]))) b zs := fun hb => sqt_updL hd7 (S7.tup hb)
        by_cases c : j < acc.length
        · rw [List.getElem?_append_left c] at e
          obtain ⟨p', q', u', e1, e2, e3⟩ := hv j v e
          exact ⟨p', q', u', e1, mv e2, mv e3⟩
        · rw [List.getElem?_append_right (by omega)] at e
          have hj0 : j - acc.length = 0 := by
            have := (List.getElem?_eq_some_iff.mp e).1
            simp at this
            omega
          rw [hj0] at e
          cases e
          obtain rfl : j = i := by omega
          refine ⟨p, w1, _, rfl, sqt_updL hd7 (.inl (.inl upd_same)), sqt_updL hd7 ?_⟩
          have z : SqT K (upd (upd (upd G T (.tup [.int (j : Nat), .ref q])) Z (.lst (fl.map fun f => V.int (f.getD j 0)))) w1 (.tup (fl.map fun f => V.int (f.getD j 0)))) w1 (iL (fl.map fun f => f.getD j 0)) := by
            refine .inl (.inl ?_)
            rw [upd_same]
            unfold iL
            rw [List.map_map]
            rfl
          exact (same_upd hp).tup z
  · rintro G ⟨kp, acc, hd, la, hv⟩
    exact hq _ D acc fl (fun b o q => kp b o (ne_of_none (S1 _ _ q) hD) (S1 _ _ q)) hd (by omega) hv hF
end
end K3
namespace K3
open PySem PySem.Spec PyProof.Rows L2 He HX KG
section
variable {P : Program} {w : World} {K : PySem.W.Frag} {mg : Str → Option Value} {base : Heap}
def NN_hanging : List PySem.Str := ["place", "lot", "ties", "found", "waiting", "here", "first", "second", "_", "there"]
theorem sc_hanging : FnScope NN_hanging ["place", "lot", "ties"] (defScope (top 9)) := ⟨rfl, rfl, rfl, by decide +kernel, rfl, by decide +kernel, by decide +kernel⟩
theorem ok_hanging (h : HK K mg) : Cal P w K mg base 1 "hanging" ["place", "lot", "ties"] (sp_hanging K) := by
  have F : FunD K "hanging" "hanging" (defArgs (top 9)) (defBody (top 9)) (defScope (top 9)) [] [] (ga K "hanging") (fdA K (ga K "hanging")) := h.says.funD 1
  have wf := h.wf
  have G : FnOk P w K mg base (L2.CX P w) (0 + 1) (ga K "hanging") (fdA K (ga K "hanging")) ["place", "lot", "ties"] (sp_hanging K) := okX F sc_hanging (fun vs H Q E hs => by (repeat (obtain ⟨_, hs⟩ := hs)) <;> subst_vars <;> rfl) (fun cdv A outer s H vs Q E hr hs => ?_)
  · exact ⟨G, h.glo _, F.kp, F.bindsN (fun _ _ _ _ _ _ us hl => match us, hl with | [_, _, _], _ => rfl)⟩
  refine ⟨_, (pss_cons (ps_set (i := 3) sc_hanging.nd rfl (by first | exact Or.inl rfl | exact Or.inr rfl) (pe_lst (pa_cons (pv 0) pa_nil)))
      (pss_cons (ps_set (i := 4) sc_hanging.nd rfl (by first | exact Or.inl rfl | exact Or.inr rfl) (pe_lst (pa_cons (pv 0) pa_nil)))
      (pss_cons (ps_while (passes_of rfl) (pt_truth (pv 4) (by intro _; rfl))
        (pss_cons (ps_set (i := 5) sc_hanging.nd rfl (by first | exact Or.inl rfl | exact Or.inr rfl) (pe_bm0 PySem.F.plainAttrs_list PySem.F.slot_list_pop PySem.F.type_list_pop mt_pop (pv 4)))
        (pss_one (ps_for (passes_of rfl) (by rfl) (pi_tup (pv 2)) (pg_tup (by rfl) (pgs_cons (pg_name (i := 6) sc_hanging.nd rfl (by first | exact Or.inl rfl | exact Or.inr rfl)) (pgs_cons (pg_name (i := 7) sc_hanging.nd rfl (by first | exact Or.inl rfl | exact Or.inr rfl)) (pgs_cons (pg_name (i := 8) sc_hanging.nd rfl (by first | exact Or.inl rfl | exact Or.inr rfl)) pgs_nil))))
          (pss_cons (ps_set (i := 9) sc_hanging.nd rfl (by first | exact Or.inl rfl | exact Or.inr rfl) pe_non)
          (pss_cons (ps_if (pt_cmpR op_eq (pv 6) (pv 5) (nomark _))
            (pss_one (ps_set (i := 9) sc_hanging.nd rfl (by first | exact Or.inl rfl | exact Or.inr rfl) (pv 7)))
            (pss_one (ps_if (pt_cmpR op_eq (pv 7) (pv 5) (nomark _))
              (pss_one (ps_set (i := 9) sc_hanging.nd rfl (by first | exact Or.inl rfl | exact Or.inr rfl) (pv 6)))
              pss_nil)))
          (pss_one (ps_if (PW.pt (pw_and (pt_cmpR op_notN (pv 9) pe_non (nomark _)) (pw_and (pt_cmpR op_in_seq (pv 9) (pv 1) (by rfl)) (pw_and1 (pt_cmpR op_notIn_seq (pv 9) (pv 3) (by rfl))))))
            (pss_cons (ps_expr (pe_bm PySem.F.plainAttrs_list PySem.F.slot_list_append PySem.F.type_list_append mt_append (pv 3) (pa_cons (pv 9) pa_nil)))
            (pss_one (ps_expr (pe_bm PySem.F.plainAttrs_list PySem.F.slot_list_append PySem.F.type_list_append mt_append (pv 4) (pa_cons (pv 9) pa_nil)))))
            pss_nil))))))))
      (pss_one (ps_ret (pe_callB cr_sorted (by rfl) (h.free "sorted") (by decide +kernel) (pa_cons (pv 3) pa_nil))))))), ?_⟩
  obtain ⟨n, p, lot, t, xs, Ts, rfl, hlot, ht, hx, hT, hp, h6, hq⟩ := hs
  refine ⟨_, rfl, small_size (show 1 ≤ 1000 by decide), fun f hf => ?_⟩
  refine ⟨_, rfl, small_size (show 1 ≤ 1000 by decide), fun w' hw' => ?_⟩
  have wf' : w' ≠ f := fun z => by
    rw [z, upd_same] at hw'
    cases hw'
  have nw : H w' = none := by
    rw [upd_ne wf'] at hw'
    exact hw'
  have mk : ∀ σ H' (fd wt : List Nat), H' f = some (.lst (nL fd)) → H' w' = some (.lst (nL wt)) → (fun (_ : L2.St) (H' : Hp) => match H' f, H' w' with | some (.lst a), some (.lst b) => 2 * (n - a.length) + b.length | _, _ => 0) σ H' = 2 * (n - fd.length) + wt.length := fun σ H' fd wt a b => by
    show (match H' f, H' w' with | some (.lst a), some (.lst b) => 2 * (n - a.length) + b.length | _, _ => 0) = _
    rw [a, b]
    show 2 * (n - (nL fd).length) + (nL wt).length = _
    rw [len_nL, len_nL]
  dsimp only [gName, tSeq]
  refine while_by (fun σ H' => Same H H' ∧ ∃ (fd wt : List Nat) (r5 r6 r7 r8 r9 : Option V), σ = [some (nI p), some (.ref lot), some (.ref t), some (.ref f), some (.ref w'), r5, r6, r7, r8, r9] ∧ H' f = some (.lst (nL fd)) ∧ H' w' = some (.lst (nL wt)) ∧ HG n (arcs Ts) p fd wt ∧ 2 * (n - fd.length) + wt.length ≤ 13) (fun (_ : L2.St) (H' : Hp) => match H' f, H' w' with | some (.lst a), some (.lst b) => 2 * (n - a.length) + b.length | _, _ => 0) ?_ ?_ (fun σ H Q Q' i ⟨v, e, k, t, q⟩ => ⟨v, e, k, t, i _ _ q⟩)
  · refine ⟨fun b o q => ?_, [p], [p], _, _, _, _, _, rfl, ?_, ?_, HG.start hp, ?_⟩
    · rw [upd_ne (ne_of_none q nw), upd_ne (ne_of_none q hf)]
      exact q
    · rw [upd_ne (Ne.symm wf'), upd_same]
      rfl
    · rw [upd_same]
      rfl
    · simp only [List.length_singleton]
      omega
  rintro σ H' ⟨S, fd, wt, r5, r6, r7, r8, r9, rfl, h1, h2, hg, hb⟩
  refine ⟨_, rfl, _, .inl ⟨_, SqL.of h2, rfl⟩, ite2 (fun c => ?_) (fun c => ?_)⟩
  · have hne : wt ≠ [] := fun z => by
      rw [z] at c
      exact absurd c (by decide)
    obtain ⟨wt0, here, rfl⟩ : ∃ a b, wt = a ++ [b] := ⟨wt.dropLast, wt.getLast hne, (List.dropLast_concat_getLast hne).symm⟩
    refine ⟨_, rfl, .inl ⟨rfl, _, SqL.of h2⟩, w', _, nI here, rfl, rfl, h2, by simp, ?_⟩
    rw [show (nL (wt0 ++ [here])).dropLast = nL wt0 by simp]
    have S1 : Same H (upd H' w' (.lst (nL wt0))) := fun b o q => by
      rw [upd_ne (ne_of_none q nw)]
      exact S b o q
    have mk0 := mk [] H' fd _ h1 h2
    refine ⟨_, rfl, t, rfl, ⟨_, S1.tup ht⟩, for_tup (K := K) (a := t) (xs := xs) (fun i σ H2 => Same H H2 ∧ ∃ (fd2 wt2 : List Nat) (r6 r7 r8 r9 : Option V), σ = [some (nI p), some (.ref lot), some (.ref t), some (.ref f), some (.ref w'), some (nI here), r6, r7, r8, r9] ∧ H2 f = some (.lst (nL fd2)) ∧ H2 w' = some (.lst (nL wt2)) ∧ HGi n (arcs Ts) p here i fd2 wt2 ∧ 2 * (n - fd2.length) + wt2.length ≤ 2 * (n - fd.length) + wt0.length) ?_ ?_ ?_ ?_⟩
    · refine ⟨S1, fd, wt0, _, _, _, _, rfl, ?_, upd_same, hg.pop, Nat.le_refl _⟩
      rw [upd_ne (Ne.symm wf')]
      exact h1
    · rintro i σ H2 _ ⟨S2, _⟩
      exact S2.tup ht
    · rintro i x σ H2 hxi ⟨S2, fd2, wt2, r6, r7, r8, r9, rfl, g1, g2, hg2, hm⟩
      obtain ⟨tt, q, ht', rfl, hq'⟩ := tie_get (hx.same S2) hxi
      have e := arcs_at ht'
      have ab := in_at hT ht'
      have lb : wt2.length ≤ 13 := by
        rw [List.length_append] at hb
        simp only [List.length_singleton] at hb
        omega
      refine ⟨q, _, rfl, hq', rfl, _, _, rfl, _, _, rfl, _, _, rfl, rfl, ?_⟩
      refine ⟨_, rfl, _, rfl, rfl, _, rfl, ite2 (fun c1 => ?_) (fun c1 => ?_)⟩
      · rw [nat_eqb, decide_eq_true_eq] at c1
        refine ⟨_, rfl, ?_⟩
        dsimp only [gName, tSeq]
        refine and_rd (a := true) (b := !decide (tt.2.1 ∈ fd2)) (fun Q' q => ⟨_, rfl, rfl, _, rfl, by rw [not_non]; exact q⟩) (fun Q' q => and_rd (a := true) (b := !decide (tt.2.1 ∈ fd2)) (fun Q' q => ⟨_, rfl, _, rfl, lot, _, rfl, .inl (S2.seq hlot), rfl, flat_nL _, _, rfl, by
          rw [if_neg Bool.false_ne_true, inV_nat, decide_eq_true (List.mem_range.mpr ab.2)]
          exact q⟩) (fun Q' q => ⟨_, rfl, _, rfl, f, _, rfl, .inl (SqL.of g1), rfl, flat_nL _, _, rfl, by
          rw [if_pos rfl, inV_nat]
          exact q⟩) q) (ite2 (fun c' => ?_) (fun c' => ?_))
        · have nq : ¬ tt.2.1 ∈ fd2 := by simpa using c'
          have hg3 := hg2.new hT e (.inl ⟨c1, rfl⟩) nq
          have l3 := nd_len hg3.nd hg3.lt
          rw [List.length_append] at l3
          simp only [List.length_singleton] at l3
          refine ⟨_, rfl, .inl ⟨rfl, _, SqL.of g1⟩, _, rfl, f, _, _, rfl, rfl, g1, small_lt (by rw [len_nL]; omega), ?_⟩
          have g3 : (upd H2 f (.lst (nL fd2 ++ [nI tt.2.1]))) w' = some (.lst (nL wt2)) := by
            rw [upd_ne wf']
            exact g2
          refine ⟨_, rfl, .inl ⟨rfl, _, SqL.of g3⟩, _, rfl, w', _, _, rfl, rfl, g3, small_lt (by rw [len_nL]; omega), ?_⟩
          refine ⟨fun b o q => ?_, fd2 ++ [tt.2.1], wt2 ++ [tt.2.1], _, _, _, _, rfl, ?_, ?_, hg3, ?_⟩
          · rw [upd_ne (ne_of_none q nw), upd_ne (ne_of_none q hf)]
            exact S2 b o q
          · rw [upd_ne (Ne.symm wf'), upd_same]
            unfold nL
            rw [List.map_append]
            rfl
          · rw [upd_same]
            unfold nL
            rw [List.map_append]
            rfl
          · rw [List.length_append, List.length_append]
            simp only [List.length_singleton]
            omega
        · have nq : tt.2.1 ∈ fd2 := by simpa using c'
          exact ⟨S2, fd2, wt2, _, _, _, _, rfl, g1, g2, hg2.old e ⟨fun _ => nq, fun z => by rw [c1, ← z]; exact nq⟩, hm⟩
      · rw [nat_eqb, decide_eq_true_eq] at c1
        refine ⟨_, rfl, _, rfl, rfl, _, rfl, ite2 (fun c2 => ?_) (fun c2 => ?_)⟩
        · rw [nat_eqb, decide_eq_true_eq] at c2
          refine ⟨_, rfl, ?_⟩
          dsimp only [gName, tSeq]
          refine and_rd (a := true) (b := !decide (tt.1 ∈ fd2)) (fun Q' q => ⟨_, rfl, rfl, _, rfl, by rw [not_non]; exact q⟩) (fun Q' q => and_rd (a := true) (b := !decide (tt.1 ∈ fd2)) (fun Q' q => ⟨_, rfl, _, rfl, lot, _, rfl, .inl (S2.seq hlot), rfl, flat_nL _, _, rfl, by
            rw [if_neg Bool.false_ne_true, inV_nat, decide_eq_true (List.mem_range.mpr ab.1)]
            exact q⟩) (fun Q' q => ⟨_, rfl, _, rfl, f, _, rfl, .inl (SqL.of g1), rfl, flat_nL _, _, rfl, by
            rw [if_pos rfl, inV_nat]
            exact q⟩) q) (ite2 (fun c' => ?_) (fun c' => ?_))
          · have nq : ¬ tt.1 ∈ fd2 := by simpa using c'
            have hg3 := hg2.new hT e (.inr ⟨c2, rfl⟩) nq
            have l3 := nd_len hg3.nd hg3.lt
            rw [List.length_append] at l3
            simp only [List.length_singleton] at l3
            refine ⟨_, rfl, .inl ⟨rfl, _, SqL.of g1⟩, _, rfl, f, _, _, rfl, rfl, g1, small_lt (by rw [len_nL]; omega), ?_⟩
            have g3 : (upd H2 f (.lst (nL fd2 ++ [nI tt.1]))) w' = some (.lst (nL wt2)) := by
              rw [upd_ne wf']
              exact g2
            refine ⟨_, rfl, .inl ⟨rfl, _, SqL.of g3⟩, _, rfl, w', _, _, rfl, rfl, g3, small_lt (by rw [len_nL]; omega), ?_⟩
            refine ⟨fun b o q => ?_, fd2 ++ [tt.1], wt2 ++ [tt.1], _, _, _, _, rfl, ?_, ?_, hg3, ?_⟩
            · rw [upd_ne (ne_of_none q nw), upd_ne (ne_of_none q hf)]
              exact S2 b o q
            · rw [upd_ne (Ne.symm wf'), upd_same]
              unfold nL
              rw [List.map_append]
              rfl
            · rw [upd_same]
              unfold nL
              rw [List.map_append]
              rfl
            · rw [List.length_append, List.length_append]
              simp only [List.length_singleton]
              omega
          · have nq : tt.1 ∈ fd2 := by simpa using c'
            exact ⟨S2, fd2, wt2, _, _, _, _, rfl, g1, g2, hg2.old e ⟨fun z => absurd z c1, fun _ => nq⟩, hm⟩
        · rw [nat_eqb, decide_eq_true_eq] at c2
          exact ⟨_, rfl, rfl, _, rfl, iteF ⟨S2, fd2, wt2, _, _, _, _, rfl, g1, g2, hg2.old e ⟨fun z => absurd z c1, fun z => absurd z c2⟩, hm⟩⟩
    · rintro σ H2 ⟨S2, fd2, wt2, r6, r7, r8, r9, rfl, g1, g2, hg2, hm⟩
      rw [rows_len hx, show Ts.length = (arcs Ts).length by simp] at hg2
      rw [List.length_append] at hb
      simp only [List.length_singleton] at hb
      refine ⟨⟨S2, fd2, wt2, _, _, _, _, _, rfl, g1, g2, hg2.stop, by omega⟩, ?_⟩
      have mk1 := mk [] H2 fd2 wt2 g1 g2
      rw [List.length_append] at mk0
      simp only [List.length_singleton] at mk0
      exact Nat.lt_of_le_of_lt (Nat.le_trans (Nat.le_of_eq mk1) hm) (by rw [show _ = _ from mk0]; omega)
  · have hne : wt = [] := by
      cases wt with
      | nil => rfl
      | cons a l => exact absurd rfl c
    subst hne
    have ln := nd_len hg.nd hg.lt
    refine ⟨_, rfl, f, fd.map (fun (n : Nat) => (n : Int)), rfl, by rw [← nL_int]; exact SqL.of h1, by rw [List.length_map]; omega, fun ns' r pm hr hr' => ?_⟩
    refine hq _ r (S.trans (same_upd hr')) (S.free hr') ?_
    rw [upd_same, sorted_nat hg.nd pm hr lotOf_rise fun x => hg.all]
end
end K3
namespace K3
open PySem PySem.Spec PyProof.Rows L2 He HX KG
section
variable {P : Program} {w : World} {K : PySem.W.Frag} {mg : Str → Option Value} {base : Heap}
def NN_has_walks : List PySem.Str := ["web", "direction", "arcs", "first", "second", "_", "number", "masks", "start", "end"]
theorem sc_has_walks : FnScope NN_has_walks ["web", "direction"] (defScope (top 28)) := ⟨rfl, rfl, rfl, by decide +kernel, rfl, by decide +kernel, by decide +kernel⟩
theorem ok_has_walks (h : HK K mg) (c_start_masks : Cal P w K mg base 1 "start_masks" ["web"] (sp_start_masks K)) (c_with_arc : Cal P w K mg base 1 "with_arc" ["masks", "start", "end"] (sp_with_arc K)) : Cal P w K mg base 2 "has_walks" ["web", "direction"] (sp_has_walks K) := by
  have F : FunD K "has_walks" "has_walks" (defArgs (top 28)) (defBody (top 28)) (defScope (top 28)) [] [] (ga K "has_walks") (fdA K (ga K "has_walks")) := h.says.funD 20
  have wf := h.wf
  have G : FnOk P w K mg base (L2.CX P w) (1 + 1) (ga K "has_walks") (fdA K (ga K "has_walks")) ["web", "direction"] (sp_has_walks K) := okX F sc_has_walks (fun vs H Q E hs => by (repeat (obtain ⟨_, hs⟩ := hs)) <;> subst_vars <;> rfl) (fun cdv A outer s H vs Q E hr hs => ?_)
  · exact ⟨G, h.glo _, F.kp, F.bindsN (fun _ _ _ _ _ _ us hl => match us, hl with | [_, _], _ => rfl)⟩
  refine ⟨_, (pss_cons (ps_set (i := 2) sc_has_walks.nd rfl (by first | exact Or.inl rfl | exact Or.inr rfl) (pe_lst pa_nil))
      (pss_cons (ps_for (passes_of rfl) (by rfl) (RZ.pi_zipA (by rfl) (h.free "zip") (pa_cons (pe_fld (pv 0) (by rfl)) (pa_cons (pv 1) pa_nil))) (pg_tup (by rfl) (pgs_cons (pg_tup (by rfl) (pgs_cons (pg_name (i := 3) sc_has_walks.nd rfl (by first | exact Or.inl rfl | exact Or.inr rfl)) (pgs_cons (pg_name (i := 4) sc_has_walks.nd rfl (by first | exact Or.inl rfl | exact Or.inr rfl)) (pgs_cons (pg_name (i := 5) sc_has_walks.nd rfl (by first | exact Or.inl rfl | exact Or.inr rfl)) pgs_nil)))) (pgs_cons (pg_name (i := 6) sc_has_walks.nd rfl (by first | exact Or.inl rfl | exact Or.inr rfl)) pgs_nil)))
        (pss_one (ps_if (pt_cmpR op_gt (pv 6) pe_int (nomark _))
          (pss_one (ps_expr (pe_bm PySem.F.plainAttrs_list PySem.F.slot_list_append PySem.F.type_list_append mt_append (pv 2) (pa_cons (pe_tup (pa_cons (pv 3) (pa_cons (pv 4) pa_nil))) pa_nil))))
          (pss_one (ps_if (pt_cmpR op_lt (pv 6) pe_int (nomark _))
            (pss_one (ps_expr (pe_bm PySem.F.plainAttrs_list PySem.F.slot_list_append PySem.F.type_list_append mt_append (pv 2) (pa_cons (pe_tup (pa_cons (pv 4) (pa_cons (pv 3) pa_nil))) pa_nil))))
            pss_nil)))))
      (pss_cons (ps_set (i := 7) sc_has_walks.nd rfl (by first | exact Or.inl rfl | exact Or.inr rfl) (pe_cal c_start_masks hr passL (pa_cons (pv 0) pa_nil)))
      (pss_cons (ps_for (passes_of rfl) (by rfl) (pi_list (pv 2)) (pg_tup (by rfl) (pgs_cons (pg_name (i := 8) sc_has_walks.nd rfl (by first | exact Or.inl rfl | exact Or.inr rfl)) (pgs_cons (pg_name (i := 9) sc_has_walks.nd rfl (by first | exact Or.inl rfl | exact Or.inr rfl)) pgs_nil)))
        (pss_one (ps_set (i := 7) sc_has_walks.nd rfl (by first | exact Or.inl rfl | exact Or.inr rfl) (pe_cal c_with_arc hr passL (pa_cons (pv 7) (pa_cons (pv 8) (pa_cons (pv 9) pa_nil)))))))
      (pss_one (ps_ret (pe_callB (cr_allI rfl) (by rfl) (h.free "all") (by decide +kernel) (pa_cons (pe_lc (own := [("start", 8), ("end", 9)]) (by rfl) sc_has_walks.nd (pi_list (pv 2)) (blkOk_by (own := [("start", 8), ("end", 9)]) (N := NN_has_walks) (sc := defScope (top 28)) (by decide +kernel)) (fun _ _ _ _ _ => by exact (pg_tupK K rfl (n := 2) (by rfl) (pgs_cons (pg_name (i := 8) sc_has_walks.nd rfl (by first | exact Or.inl rfl | exact Or.inr rfl)) (pgs_cons (pg_name (i := 9) sc_has_walks.nd rfl (by first | exact Or.inl rfl | exact Or.inr rfl)) pgs_nil)))) (fun _ _ _ _ _ => by exact pts_nil) (fun _ _ _ _ _ => by exact (pe_op op_and (pe_op op_shrN (pe_ix (ix_listK K rfl) (pv 7) (pv 9) (fun _ _ => rfl)) (pv 8)) pe_int))) pa_nil)))))))), ?_⟩
  obtain ⟨a, d, n, Ts, ws, rfl, hw, gw, hd, lw, hs', hq⟩ := hs
  obtain ⟨dx, t, xs, ha, ht, hx⟩ := id hw
  have n6 := gw.n6
  have lT := gw.len
  have hT := gw.ok.inn
  have lx := rows_len hx
  have liw := len_iL ws
  refine ⟨size0, fun ar har => ?_⟩
  have S0 := same_upd (o := .lst []) har
  refine ⟨_, rfl, a, _, dx, _, _, rfl, S0 _ _ ha, wf.cls, wf.no _ (by decide +kernel), rfl, _, rfl, t, d, xs, iL ws, rfl, .inr ⟨S0.tup ht, S0.tup hd, RZ.for_zipT (xs := xs) (ys := iL ws) (by omega) (fun i σ H' => Same H H' ∧ ∃ (ys : List V) (r3 r4 r5 r6 r7 r8 r9 : Option V), σ = [some (.ref a), some (.ref d), some (.ref ar), r3, r4, r5, r6, r7, r8, r9] ∧ H' ar = some (.lst ys) ∧ RowsAt K H' ys ((arcsOf ((arcs Ts).take i) (ws.take i)).map arcR) ∧ ys.length ≤ i) ?_ ?_ ?_ ?_⟩⟩
  · exact ⟨S0, [], _, _, _, _, _, _, _, rfl, upd_same, .nil, Nat.le_refl _⟩
  · rintro i σ H' ⟨S, _⟩
    exact ⟨S.tup ht, S.tup hd⟩
  · rintro i x y T σ H' hxi hyi ⟨S, ys, r3, r4, r5, r6, r7, r8, r9, rfl, h1, h2, h3⟩ nT
    obtain ⟨tt, q, ht', rfl, hq'⟩ := tie_get (hx.same S) hxi
    obtain ⟨s, hsi, rfl⟩ := iL_get hyi
    have hi : i < Ts.length := (List.getElem?_eq_some_iff.mp ht').1
    have e := arcs_at ht'
    have u := same_upd (o := .tup [.ref q, .int s]) nT
    have h1' := u _ _ h1
    have sn := arcs_snoc e hsi
    refine ⟨T, _, rfl, .inl (.inl upd_same), rfl, _, _, rfl, q, _, rfl, u.tup hq', rfl, _, _, rfl, _, _, rfl, _, _, rfl, rfl, _, _, rfl, rfl, ?_⟩
    refine ⟨_, rfl, _, _, rfl, rfl, _, rfl, ite2 (fun c => ?_) (fun c => ?_)⟩
    · have c1 := of_decide_eq_true c
      have s1 : s = 1 := by
        rcases hs' s (List.mem_of_getElem? hsi) with z | z | z <;> omega
      refine ⟨_, rfl, .inl ⟨rfl, _, SqL.of h1'⟩, _, rfl, _, rfl, small_size (show 2 ≤ 1000 by decide), fun p hp => ?_⟩
      have u2 := same_upd (o := .tup [nI tt.1, nI tt.2.1]) hp
      have g1 := u2 _ _ h1'
      refine ⟨ar, _, _, rfl, rfl, g1, small_lt (by omega), fun b o q0 => ?_, ys ++ [.ref p], _, _, _, _, _, _, _, rfl, upd_same, ?_, by rw [List.length_append]; simp only [List.length_singleton]; omega⟩
      · rw [upd_ne (ne_of_none q0 har)]
        exact u2 _ _ (u _ _ (S _ _ q0))
      · rw [sn, if_pos s1, List.map_append]
        exact (((h2.same u).same u2).snoc (d := arcR (tt.1, tt.2.1)) ⟨p, rfl, .inl (.inl upd_same)⟩).updL g1
    · have c1 : ¬ (0 : Int) < s := by simpa using c
      refine ⟨_, rfl, _, _, rfl, rfl, _, rfl, ite2 (fun c' => ?_) (fun c' => ?_)⟩
      · have c2 := of_decide_eq_true c'
        have s1 : s = -1 := by
          rcases hs' s (List.mem_of_getElem? hsi) with z | z | z <;> omega
        refine ⟨_, rfl, .inl ⟨rfl, _, SqL.of h1'⟩, _, rfl, _, rfl, small_size (show 2 ≤ 1000 by decide), fun p hp => ?_⟩
        have u2 := same_upd (o := .tup [nI tt.2.1, nI tt.1]) hp
        have g1 := u2 _ _ h1'
        refine ⟨ar, _, _, rfl, rfl, g1, small_lt (by omega), fun b o q0 => ?_, ys ++ [.ref p], _, _, _, _, _, _, _, rfl, upd_same, ?_, by rw [List.length_append]; simp only [List.length_singleton]; omega⟩
        · rw [upd_ne (ne_of_none q0 har)]
          exact u2 _ _ (u _ _ (S _ _ q0))
        · rw [sn, if_neg (by omega), if_pos s1, List.map_append]
          exact (((h2.same u).same u2).snoc (d := arcR (tt.2.1, tt.1)) ⟨p, rfl, .inl (.inl upd_same)⟩).updL g1
      · have c2 : ¬ s < (0 : Int) := by simpa using c'
        refine ⟨S.trans u, ys, _, _, _, _, _, _, _, rfl, h1', ?_, by omega⟩
        rw [sn, if_neg (by omega), if_neg (by omega), List.append_nil]
        exact h2.same u
  · rintro σ H' ⟨S, ys, r3, r4, r5, r6, r7, r8, r9, rfl, h1, h2, h3⟩
    rw [List.take_of_length_le (by simp; omega), List.take_of_length_le (by omega)] at h2
    have hA : KG.In n (arcsOf (arcs Ts) ws) := arcsOf_in hT
    generalize arcsOf (arcs Ts) ws = A at h2 hA hq
    have lA := arows_len h2
    refine ⟨_, rfl, a, n, Ts, rfl, hw.same S, n6, fun H1 m S1 nm hm => ?_⟩
    have h1' := S1 _ _ h1
    have h2' := h2.same S1
    refine ⟨_, rfl, ar, rfl, ⟨_, .inl (.inl h1')⟩, for_list (K := K) (a := ar) (xs := ys) (fun j σ H2 => Same H1 H2 ∧ ∃ (m : Addr) (ms : List Nat) (r8 r9 : Option V), σ = [some (.ref a), some (.ref d), some (.ref ar), r3, r4, r5, r6, some (.ref m), r8, r9] ∧ H2 m = some (.lst (nL ms)) ∧ Msk n (A.take j) ms) ?_ ?_ ?_ ?_⟩
    · exact ⟨Same.refl _, m, startM n, _, _, rfl, hm, startM_ok⟩
    · rintro j σ H2 _ ⟨S2, _⟩
      exact .inl (.inl (S2 _ _ h1'))
    · rintro j x σ H2 hj ⟨S2, m, ms, r8, r9, rfl, g1, g2⟩
      obtain ⟨c, q, hc, rfl, hq'⟩ := arc_get (h2'.same S2) hj
      have ab := hA c (List.mem_of_getElem? hc)
      refine ⟨q, _, rfl, hq', rfl, _, _, rfl, _, _, rfl, rfl, ?_⟩
      refine ⟨_, rfl, _, rfl, _, rfl, m, ms, c.1, c.2, rfl, .inl (.inl g1), by rw [g2.1]; exact ab.2, by rw [g2.1]; omega, fun H3 r S3 nr hr => ⟨S2.trans S3, r, _, _, _, rfl, hr, ?_⟩⟩
      rw [take_snoc hc]
      exact withArc_ok g2 ab.2
    · rintro σ H2 ⟨S2, m, ms, r8, r9, rfl, g1, g2⟩
      rw [lA, List.take_length] at g2
      have h1'' := S2 _ _ h1'
      refine ⟨_, rfl, ar, rfl, ⟨_, .inl (.inl h1'')⟩, fun D hD => lc_list (K := K) (a := ar) (xs := ys) (fun i G => G = upd H2 D (.lst ((A.take i).map fun t => V.int (((ms.getD t.2 0) / 2 ^ t.1 % 2 : Nat) : Int)))) rfl ?_ ?_ ?_⟩
      · rintro i G _ rfl
        exact .inl (.inl (same_upd hD _ _ h1''))
      · rintro i v G hv rfl
        have SS := same_upd (H := H2) (o := .lst ((A.take i).map fun t => V.int (((ms.getD t.2 0) / 2 ^ t.1 % 2 : Nat) : Int))) hD
        obtain ⟨c, q, hc, rfl, hq'⟩ := arc_get (h2'.same (S2.trans SS)) hv
        have ab := hA c (List.mem_of_getElem? hc)
        have ec : ms[c.2]? = some (ms.getD c.2 0) := by rw [List.getD_eq_getElem?_getD, List.getElem?_eq_getElem (by rw [g2.1]; exact ab.2)]; rfl
        refine ⟨q, _, rfl, hq', rfl, _, _, rfl, _, _, rfl, rfl, rfl, ?_⟩
        exact ⟨_, rfl, _, rfl, m, _, _, _, rfl, rfl, .inl (.inl (SS _ _ g1)), nL_atI ec, _, rfl, _, c.1, rfl, rfl, _, _, rfl, rfl, lcs hc (by omega) (congrArg V.int (bit_at1 _ _))⟩
      · rintro G rfl
        rw [lA, List.take_length]
        refine ⟨D, A.map fun t => (((ms.getD t.2 0) / 2 ^ t.1 % 2 : Nat) : Int), rfl, .inl (.inl ?_), ?_⟩
        · rw [upd_same, List.map_map]
          rfl
        have e : (A.map fun t => (((ms.getD t.2 0) / 2 ^ t.1 % 2 : Nat) : Int)).all (· != 0) = @decide (KG.Back A) (Classical.propDecidable _) := by
          classical
          rw [Bool.eq_iff_iff, decide_eq_true_eq, List.all_map, List.all_eq_true]
          have one : ∀ t ∈ A, ((((ms.getD t.2 0) / 2 ^ t.1 % 2 : Nat) : Int) != 0) = true ↔ Rch A t.2 t.1 := fun t m => by
            have ab := hA t m
            have ec : ms[t.2]? = some (ms.getD t.2 0) := by rw [List.getD_eq_getElem?_getD, List.getElem?_eq_getElem (by rw [g2.1]; exact ab.2)]; rfl
            rw [← g2.2 t.2 _ ec t.1, ← bit_test, bit_at1]
          exact ⟨fun h t m => (one t m).mp (h t m), fun h t m => (one t m).mpr (h t m)⟩
        rw [e]
        exact hq _ (((S.trans S1).trans S2).trans (same_upd hD))
end
end K3
namespace K3
open PySem PySem.Spec PyProof.Rows L2 He HX KG
section
variable {P : Program} {w : World} {K : PySem.W.Frag} {mg : Str → Option Value} {base : Heap}
def NN_joined_marks : List PySem.Str := ["marks", "first", "second", "old", "new", "mark"]
theorem sc_joined_marks : FnScope NN_joined_marks ["marks", "first", "second"] (defScope (top 10)) := ⟨rfl, rfl, rfl, by decide +kernel, rfl, by decide +kernel, by decide +kernel⟩
theorem ok_joined_marks (h : HK K mg) : Cal P w K mg base 1 "joined_marks" ["marks", "first", "second"] (sp_joined_marks K) := by
  have F : FunD K "joined_marks" "joined_marks" (defArgs (top 10)) (defBody (top 10)) (defScope (top 10)) [] [] (ga K "joined_marks") (fdA K (ga K "joined_marks")) := h.says.funD 2
  have wf := h.wf
  have G : FnOk P w K mg base (L2.CX P w) (0 + 1) (ga K "joined_marks") (fdA K (ga K "joined_marks")) ["marks", "first", "second"] (sp_joined_marks K) := okX F sc_joined_marks (fun vs H Q E hs => by (repeat (obtain ⟨_, hs⟩ := hs)) <;> subst_vars <;> rfl) (fun cdv A outer s H vs Q E hr hs => ?_)
  · exact ⟨G, h.glo _, F.kp, F.bindsN (fun _ _ _ _ _ _ us hl => match us, hl with | [_, _, _], _ => rfl)⟩
  refine ⟨_, (pss_cons (ps_set (i := 3) sc_joined_marks.nd rfl (by first | exact Or.inl rfl | exact Or.inr rfl) (pe_ix ix_list (pv 0) (pv 1) (fun _ _ => rfl)))
      (pss_cons (ps_set (i := 4) sc_joined_marks.nd rfl (by first | exact Or.inl rfl | exact Or.inr rfl) (pe_ix ix_list (pv 0) (pv 2) (fun _ _ => rfl)))
      (pss_one (ps_ret (pe_lc (own := [("mark", 5)]) (by rfl) sc_joined_marks.nd (pi_list (pv 0)) (blkOk_by (own := [("mark", 5)]) (N := NN_joined_marks) (sc := defScope (top 10)) (by decide +kernel)) (fun _ _ _ _ _ => by exact (pg_name (i := 5) sc_joined_marks.nd rfl (by first | exact Or.inl rfl | exact Or.inr rfl))) (fun _ _ _ _ _ => by exact pts_nil) (fun _ _ _ _ _ => by exact (pe_ifExp (pt_cmpR op_eq (pv 5) (pv 3) (nomark _)) (pv 4) (pv 5)))))))), ?_⟩
  obtain ⟨l, ms, a, b, p, q, rfl, hl, ha, hb, hn, hq⟩ := hs
  refine ⟨_, rfl, _, rfl, l, _, _, _, rfl, rfl, hl, nL_atI ha, ?_⟩
  refine ⟨_, rfl, _, rfl, l, _, _, _, rfl, rfl, hl, nL_atI hb, ?_⟩
  refine ⟨_, rfl, l, rfl, ⟨_, hl⟩, fun D hD => lc_list (K := K) (a := l) (xs := nL ms) (fun i H' => H' = upd H D (.lst ((ms.take i).map fun m => nI (if m = p then q else m)))) rfl ?_ ?_ ?_⟩
  · rintro i H' _ rfl
    exact (same_upd hD).seq hl
  · rintro i v H' hv rfl
    obtain ⟨m, hm, rfl⟩ := nL_get hv
    refine ⟨rfl, _, rfl, _, rfl, rfl, _, rfl, ite2 (fun c => ?_) (fun c => ?_)⟩
    · rw [nat_eqb, decide_eq_true_eq] at c
      exact ⟨_, rfl, lcs hm (by omega) (by rw [if_pos c])⟩
    · rw [nat_eqb, decide_eq_true_eq] at c
      exact ⟨_, rfl, lcs hm (by omega) (by rw [if_neg c])⟩
  · rintro H' rfl
    rw [List.length_map, List.take_length]
    refine hq _ D (same_upd hD) hD ?_
    rw [upd_same]
    congr 2
    unfold renM nL
    rw [List.map_map]
    rfl
end
end K3
namespace K3
open PySem PySem.Spec PyProof.Rows L2 He HX KG
section
variable {P : Program} {w : World} {K : PySem.W.Frag} {mg : Str → Option Value} {base : Heap}
def NN_look_joined : List PySem.Str := ["web"]
theorem sc_look_joined : FnScope NN_look_joined ["web"] (defScope (top 11)) := ⟨rfl, rfl, rfl, by decide +kernel, rfl, by decide +kernel, by decide +kernel⟩
theorem ok_look_joined (h : HK K mg) (c_Web_is_joined : CalM P w K mg base 6 (wC K) "is_joined" ["self"] (sp_Web_is_joined K)) (c_Web_together : CalM P w K mg base 5 (wC K) "together" ["self", "place"] (sp_Web_together K)) (x_Loose : CalX P w K mg base 3 "Loose" ps_X_Loose (sp_X_Loose K)) : Cal P w K mg base 7 "look_joined" ["web"] (sp_look_joined K) := by
  have F : FunD K "look_joined" "look_joined" (defArgs (top 11)) (defBody (top 11)) (defScope (top 11)) [] [] (ga K "look_joined") (fdA K (ga K "look_joined")) := h.says.funD 3
  have wf := h.wf
  have G : FnOk P w K mg base (L2.CX P w) (6 + 1) (ga K "look_joined") (fdA K (ga K "look_joined")) ["web"] (sp_look_joined K) := okX F sc_look_joined (fun vs H Q E hs => by (repeat (obtain ⟨_, hs⟩ := hs)) <;> subst_vars <;> rfl) (fun cdv A outer s H vs Q E hr hs => ?_)
  · exact ⟨G, h.glo _, F.kp, F.bindsN (fun _ _ _ _ _ _ us hl => match us, hl with | [_], _ => rfl)⟩
  refine ⟨_, (pss_one (ps_if (pt_not (pt_val (pe_calM0 c_Web_is_joined hr passL (pv 0))))
        (pss_one (ps_raise (by rfl) (takes_of rfl rfl rfl rfl) (pmk_cal x_Loose hr (pa_cons (pe_calM c_Web_together hr passL (pv 0) (pa_cons pe_int pa_nil)) pa_nil))))
        pss_nil)), ?_⟩
  obtain ⟨a, n, Ts, rfl, hw, gw, h1, h2⟩ := hs
  obtain ⟨dx, t, xs, ha, ht, hx⟩ := id hw
  have n1 := gw.n1
  have n6 := gw.n6
  refine ⟨_, rfl, a, dx, _, rfl, ha, rfl, a, n, Ts, rfl, hw, gw, fun H' S => ⟨_, rfl, ite2 (fun c => ?_) (fun c => ?_)⟩⟩
  · have nj : ¬ JoinedW n Ts := by simpa using c
    refine ⟨_, rfl, a, dx, _, rfl, S _ _ ha, rfl, a, n, 0, Ts, rfl, hw.same S, gw, by omega, fun H1 q S1 hl => ?_⟩
    refine ⟨(show 1 ≤ 1000 by decide), fun e ne => ⟨e, _, .t ((lotOf n (arcs Ts) 0).map fun (k : Nat) => (k : Int)), rfl, upd_same, ⟨q, rfl, ?_, ?_⟩, fun H2 dx' y' but he nd ned hd hc => ?_⟩⟩
    · rw [List.length_map]
      exact Nat.le_trans lot_le (by omega)
    · rw [← nL_int]
      exact (same_upd ne).tup hl
    · obtain ⟨q', rfl, hq'⟩ := hc
      have SS := (S.trans S1).trans (same_but ne but)
      refine ⟨rfl, some dx', he, h2 nj _ dx' q' (fun b o q0 => ?_) ?_ ?_⟩
      · rw [del_ne (ne_of_none ((S.trans S1) _ _ q0) ne)]
        exact SS b o q0
      · rw [del_ne ned]
        exact hd
      · rw [nL_int]
        exact sqt_del he hq'
  · have jn : JoinedW n Ts := by simpa using c
    exact h1 jn _ S
end
end K3
namespace K3
open PySem PySem.Spec PyProof.Rows L2 He HX KG
section
variable {P : Program} {w : World} {K : PySem.W.Frag} {mg : Str → Option Value} {base : Heap}
def NN_order_count : List PySem.Str := ["web", "waiting", "first", "second", "_", "number", "pairs", "kept", "gone", "left", "a", "b"]
theorem sc_order_count : FnScope NN_order_count ["web"] (defScope (top 27)) := ⟨rfl, rfl, rfl, by decide +kernel, rfl, by decide +kernel, by decide +kernel⟩
theorem ok_order_count (h : HK K mg) (c_plain_pairs : Cal P w K mg base 1 "plain_pairs" ["pairs"] (sp_plain_pairs K)) : Cal P w K mg base 2 "order_count" ["web"] (sp_order_count K) := by
  have F : FunD K "order_count" "order_count" (defArgs (top 27)) (defBody (top 27)) (defScope (top 27)) [] [] (ga K "order_count") (fdA K (ga K "order_count")) := h.says.funD 19
  have wf := h.wf
  have G : FnOk P w K mg base (L2.CX P w) (1 + 1) (ga K "order_count") (fdA K (ga K "order_count")) ["web"] (sp_order_count K) := okX F sc_order_count (fun vs H Q E hs => by (repeat (obtain ⟨_, hs⟩ := hs)) <;> subst_vars <;> rfl) (fun cdv A outer s H vs Q E hr hs => ?_)
  · exact ⟨G, h.glo _, F.kp, F.bindsN (fun _ _ _ _ _ _ us hl => match us, hl with | [_], _ => rfl)⟩
  refine ⟨_, (pss_cons (ps_set (i := 1) sc_order_count.nd rfl (by first | exact Or.inl rfl | exact Or.inr rfl) (pe_lst (pa_cons (pe_cal c_plain_pairs hr passL (pa_cons (pe_lc (own := [("first", 2), ("second", 3), ("_", 4)]) (by rfl) sc_order_count.nd (pi_tup (pe_fld (pv 0) (by rfl))) (blkOk_by (own := [("first", 2), ("second", 3), ("_", 4)]) (N := NN_order_count) (sc := defScope (top 27)) (by decide +kernel)) (fun _ _ _ _ _ => by exact (pg_tupK K rfl (n := 3) (by rfl) (pgs_cons (pg_name (i := 2) sc_order_count.nd rfl (by first | exact Or.inl rfl | exact Or.inr rfl)) (pgs_cons (pg_name (i := 3) sc_order_count.nd rfl (by first | exact Or.inl rfl | exact Or.inr rfl)) (pgs_cons (pg_name (i := 4) sc_order_count.nd rfl (by first | exact Or.inl rfl | exact Or.inr rfl)) pgs_nil))))) (fun _ _ _ _ _ => by exact pts_nil) (fun _ _ _ _ _ => by exact (pe_tup (pa_cons (pv 2) (pa_cons (pv 3) pa_nil))))) pa_nil)) pa_nil)))
      (pss_cons (ps_set (i := 5) sc_order_count.nd rfl (by first | exact Or.inl rfl | exact Or.inr rfl) pe_int)
      (pss_cons (ps_while (passes_of rfl) (pt_truth (pv 1) (by intro _; rfl))
        (pss_cons (ps_set (i := 6) sc_order_count.nd rfl (by first | exact Or.inl rfl | exact Or.inr rfl) (pe_bm0 PySem.F.plainAttrs_list PySem.F.slot_list_pop PySem.F.type_list_pop mt_pop (pv 1)))
        (pss_one (ps_if (pt_truth (pv 6) (by intro _; rfl))
          (pss_cons (ps_asg (pe_ix ix_list (pv 6) (pe_un un_neg pe_int) (fun _ _ => rfl)) (pg_tup (by rfl) (pgs_cons (pg_name (i := 7) sc_order_count.nd rfl (by first | exact Or.inl rfl | exact Or.inr rfl)) (pgs_cons (pg_name (i := 8) sc_order_count.nd rfl (by first | exact Or.inl rfl | exact Or.inr rfl)) pgs_nil))))
          (pss_cons (ps_set (i := 9) sc_order_count.nd rfl (by first | exact Or.inl rfl | exact Or.inr rfl) (pe_slice sl_list (pv 6) po_none (po_some (pe_un un_neg pe_int))))
          (pss_cons (ps_expr (pe_bm PySem.F.plainAttrs_list PySem.F.slot_list_append PySem.F.type_list_append mt_append (pv 1) (pa_cons (pv 9) pa_nil)))
          (pss_one (ps_expr (pe_bm PySem.F.plainAttrs_list PySem.F.slot_list_append PySem.F.type_list_append mt_append (pv 1) (pa_cons (pe_cal c_plain_pairs hr passL (pa_cons (pe_lc (own := [("a", 10), ("b", 11)]) (by rfl) sc_order_count.nd (pi_list (pv 9)) (blkOk_by (own := [("a", 10), ("b", 11)]) (N := NN_order_count) (sc := defScope (top 27)) (by decide +kernel)) (fun _ _ _ _ _ => by exact (pg_tupK K rfl (n := 2) (by rfl) (pgs_cons (pg_name (i := 10) sc_order_count.nd rfl (by first | exact Or.inl rfl | exact Or.inr rfl)) (pgs_cons (pg_name (i := 11) sc_order_count.nd rfl (by first | exact Or.inl rfl | exact Or.inr rfl)) pgs_nil)))) (fun _ _ _ _ _ => by exact pts_nil) (fun _ _ _ _ _ => by exact (pe_tup (pa_cons (pe_ifExp (pt_cmpR op_eq (pv 10) (pv 8) (nomark _)) (pv 7) (pv 10)) (pa_cons (pe_ifExp (pt_cmpR op_eq (pv 11) (pv 8) (nomark _)) (pv 7) (pv 11)) pa_nil))))) pa_nil)) pa_nil)))))))
          (pss_one (ps_set (i := 5) sc_order_count.nd rfl (by first | exact Or.inl rfl | exact Or.inr rfl) (pe_op op_add (pv 5) pe_int)))))))
      (pss_one (ps_ret (pv 5)))))), ?_⟩
  obtain ⟨a, n, Ts, rfl, hw, gw, hq⟩ := hs
  obtain ⟨dx, t, xs, ha, ht, hx⟩ := id hw
  have n6 := gw.n6
  have lT := gw.len
  have hT := gw.ok.inn
  have lx := rows_len hx
  refine ⟨_, rfl, a, _, dx, _, _, rfl, ha, wf.cls, wf.no _ (by decide +kernel), rfl, t, rfl, ⟨_, ht⟩, fun D hD => lc_it (walk_tup (K := K) (a := t) (xs := xs)) (fun i G => (∀ b o, b ≠ D → H b = some o → G b = some o) ∧ ∃ acc, G D = some (.lst acc) ∧ RowsAt K G acc (((arcs Ts).take i).map arcR)) ?_ ?_ ?_ ?_⟩
  · refine ⟨fun b o ne q => ?_, [], upd_same, .nil⟩
    rw [upd_ne ne]
    exact q
  · rintro i G _ ⟨kp, _⟩
    exact Same.tup (fun b o q => kp b o (ne_of_none q hD) q) ht
  · rintro i x G G' hi ⟨kp, acc, hd, hr⟩ ⟨rfl, hxi⟩
    have SD : Same H G' := fun b o q => kp b o (ne_of_none q hD) q
    obtain ⟨tt, q, ht', rfl, hq'⟩ := tie_get (hx.same SD) hxi
    have e := arcs_at ht'
    refine ⟨q, _, rfl, hq', rfl, _, _, rfl, _, _, rfl, _, _, rfl, rfl, rfl, ?_⟩
    refine ⟨_, rfl, _, rfl, small_size (show 2 ≤ 1000 by decide), fun p hp => ?_⟩
    have u := same_upd (o := .tup [nI tt.1, nI tt.2.1]) hp
    have hd' := u _ _ hd
    refine ⟨acc, hd', small_lt (by rw [hr.1, List.length_map, List.length_take]; simp; omega), fun b o ne q => ?_, acc ++ [.ref p], upd_same, ?_⟩
    · rw [upd_ne ne]
      exact u _ _ (kp b o ne q)
    · rw [take_snoc e, List.map_append]
      exact ((hr.same u).snoc (d := arcR (tt.1, tt.2.1)) ⟨p, rfl, .inl (.inl upd_same)⟩).updL hd'
  rintro G ⟨kp, acc, hd, hr⟩
  have SD : Same H G := fun b o q => kp b o (ne_of_none q hD) q
  rw [lx, List.take_of_length_le (by simp)] at hr
  refine ⟨D, acc, arcs Ts, rfl, .inl (.inl hd), hr, fun c m => ?_, by simp; omega, fun H1 r ys D0 S1 nr hr1 hy nd mem => ?_⟩
  · have := hT c m
    omega
  have ne0 : ∀ c ∈ arcs Ts, c.1 ≠ c.2 := fun c m => by
    obtain ⟨tt, mt, rfl⟩ := List.mem_map.mp m
    exact (gw.ok tt mt).2.2.1
  obtain ⟨pl0, le0, ct0⟩ := plain_of hT ne0 nd mem
  refine ⟨small_size (show 1 ≤ 1000 by decide), fun wt hwt => ?_⟩
  have S2 := same_upd (o := .lst [.ref r]) hwt
  have SS := (SD.trans S1).trans S2
  have wn : H wt = none := (SD.trans S1).free hwt
  have rw0 : r ≠ wt := fun z => by
    rw [z, hwt] at hr1
    cases hr1
  dsimp only [gName, tSeq, tAsg, tC]
  refine while_by (fun σ H' => Same H H' ∧ ∃ (ws : List V) (E : List (List Arc)) (num : Nat) (r2 r3 r4 r6 r7 r8 r9 r10 r11 : Option V), σ = [some (.ref a), some (.ref wt), r2, r3, r4, some (nI num), r6, r7, r8, r9, r10, r11] ∧ H' wt = some (.lst ws) ∧ PairsX K wt H' ws E ∧ (∀ d ∈ E, Plain n d ∧ d.length ≤ 10) ∧ num + sumC E = cnt [] (arcs Ts) ∧ sum3 E ≤ 59049) (fun _ H' => muP wt H') ?_ ?_ (fun σ H Q Q' i ⟨v, e, k, t, q⟩ => ⟨v, e, k, t, i _ _ q⟩)
  · refine ⟨SS, [.ref r], [D0], 0, _, _, _, _, _, _, _, _, _, rfl, upd_same, ?_, ?_, ?_, ?_⟩
    · refine PairsX.snoc (xs := []) (E := []) ⟨rfl, fun i v d e => by simp at e⟩ ⟨r, ys, rfl, S2 _ _ hr1, rw0, hy.same S2⟩
    · intro d m
      rw [List.mem_singleton.mp m]
      refine ⟨pl0, ?_⟩
      have : (arcs Ts).length = Ts.length := by simp
      omega
    · rw [← ct0]
      simp [sumC]
    · have : (arcs Ts).length = Ts.length := by simp
      show 3 ^ D0.length + 0 ≤ 59049
      exact Nat.le_trans (Nat.pow_le_pow_right (by decide) (show D0.length ≤ 10 by omega)) (by decide)
  rintro σ H' ⟨S, ws, E, num, r2, r3, r4, r6, r7, r8, r9, r10, r11, rfl, h1, hP, hpl, hc, h3⟩
  have mu0 := mu_eq h1 hP
  refine ⟨_, rfl, _, .inl ⟨_, SqL.of h1, rfl⟩, ite2 (fun c => ?_) (fun c => ?_)⟩
  · have hne : ws ≠ [] := fun z => by
      rw [z] at c
      exact absurd c (by decide)
    obtain ⟨ws0, v, rfl⟩ : ∃ x y, ws = x ++ [y] := ⟨ws.dropLast, ws.getLast hne, (List.dropLast_concat_getLast hne).symm⟩
    have hneE : E ≠ [] := fun z => by
      have := hP.1
      rw [z] at this
      simp at this
    obtain ⟨E0, d, rfl⟩ : ∃ x y, E = x ++ [y] := ⟨E.dropLast, E.getLast hneE, (List.dropLast_concat_getLast hneE).symm⟩
    obtain ⟨hP0, l, ys, rfl, hl, lw, hy⟩ := hP.pop
    obtain ⟨pd, ld⟩ := hpl d (by simp)
    have hpl0 : ∀ d ∈ E0, Plain n d ∧ d.length ≤ 10 := fun d m => hpl d (List.mem_append_left _ m)
    rw [sum3_snoc] at h3 mu0
    rw [sumC_snoc] at hc
    have l0 := hP0.1
    have l3 := sum3_len E0
    have l4 : E0.length ≤ 59049 := Nat.le_trans l3 (Nat.le_trans (Nat.le_add_right _ _) h3)
    have l5 : sum3 E0 ≤ 59049 := Nat.le_trans (Nat.le_add_right _ _) h3
    refine ⟨_, rfl, .inl ⟨rfl, _, SqL.of h1⟩, wt, _, .ref l, rfl, rfl, h1, by simp, ?_⟩
    rw [show (ws0 ++ [V.ref l]).dropLast = ws0 by simp]
    have kpA : ∀ b o, b ≠ wt → H' b = some o → (upd H' wt (.lst ws0)) b = some o := fun b o ne q => by
      rw [upd_ne ne]
      exact q
    have SA : Same H (upd H' wt (.lst ws0)) := fun b o q => kpA b o (ne_of_none q wn) (S b o q)
    have hPA := hP0.keep kpA h1
    have hlA := kpA _ _ lw hl
    have hyA : RowsAt K (upd H' wt (.lst ws0)) ys (d.map arcR) := hy.mono fun _ _ q => sqt_but kpA h1 q
    have hwA : (upd H' wt (.lst ws0)) wt = some (.lst ws0) := upd_same
    generalize upd H' wt (.lst ws0) = HA at SA hPA hlA hyA hwA ⊢
    have ly := arows_len hyA
    refine ⟨_, rfl, _, .inl ⟨_, SqL.of hlA, rfl⟩, ite2 (fun c1 => ?_) (fun c1 => ?_)⟩
    · have yne : ys ≠ [] := fun z => by
        rw [z] at c1
        exact absurd c1 (by decide)
      have dne : d ≠ [] := fun z => by
        rw [z] at ly
        exact yne (List.length_eq_zero_iff.mp ly)
      obtain ⟨ys0, y, rfl⟩ : ∃ p q, ys = p ++ [q] := ⟨ys.dropLast, ys.getLast yne, (List.dropLast_concat_getLast yne).symm⟩
      obtain ⟨d0, ⟨k, g⟩, rfl⟩ : ∃ p q, d = p ++ [q] := ⟨d.dropLast, d.getLast dne, (List.dropLast_concat_getLast dne).symm⟩
      have ly0 : ys0.length = d0.length := by simpa using ly
      obtain ⟨pl1, in1, ne1, ct1⟩ := plain_step pd
      rw [List.length_append] at ld
      simp only [List.length_singleton] at ld
      obtain ⟨t1, q1, et, ey, hq1⟩ := arc_get hyA (i := ys0.length) (v := y) (by simp)
      rw [ly0] at et
      have et1 : t1 = (k, g) := by
        have z : (d0 ++ [(k, g)])[d0.length]? = some (k, g) := by simp
        rw [z] at et
        exact (Option.some.inj et).symm
      subst et1
      have hy0 : RowsAt K HA ys0 (d0.map arcR) := ⟨by simp [ly0], fun i v e a b => hyA.2 i v e (by rw [List.getElem?_append_left (List.getElem?_eq_some_iff.mp a).1]; exact a) (by rw [List.map_append, List.getElem?_append_left (List.getElem?_eq_some_iff.mp b).1]; exact b)⟩
      refine ⟨_, rfl, _, rfl, l, _, _, _, rfl, rfl, .inl (.inl hlA), atI_last _ _, ?_⟩
      rw [ey]
      refine ⟨q1, _, rfl, hq1, rfl, _, _, rfl, _, _, rfl, rfl, ?_⟩
      refine ⟨_, rfl, _, rfl, _, rfl, l, _, rfl, .inl (.inl hlA), fun lf hlf => ?_⟩
      rw [cut_last, List.dropLast_concat]
      have SB := same_upd (o := .lst ys0) hlf
      have hwB := SB _ _ hwA
      have hlfB : (upd HA lf (.lst ys0)) lf = some (.lst ys0) := upd_same
      have lfw : lf ≠ wt := ne_of_some_none hlf hwA
      have hPB := (hPA.keep (fun b o _ q => SB _ _ q) hwA).snoc (v := .ref lf) (d := d0) ⟨lf, ys0, rfl, hlfB, lfw, hy0.same SB⟩
      have hyB := hy0.same SB
      have SAB := SA.trans SB
      generalize upd HA lf (.lst ys0) = HB at hwB hlfB hPB hyB SAB ⊢
      refine ⟨_, rfl, .inl ⟨rfl, _, SqL.of hwB⟩, _, rfl, wt, _, _, rfl, rfl, hwB, mid_lt (by omega), ?_⟩
      have kpC : ∀ b o, b ≠ wt → HB b = some o → (upd HB wt (.lst (ws0 ++ [.ref lf]))) b = some o := fun b o ne q => by
        rw [upd_ne ne]
        exact q
      have hwC : (upd HB wt (.lst (ws0 ++ [.ref lf]))) wt = some (.lst (ws0 ++ [.ref lf])) := upd_same
      have hlfC := kpC _ _ lfw hlfB
      have hPC := hPB.keep kpC hwB
      have hyC : RowsAt K (upd HB wt (.lst (ws0 ++ [.ref lf]))) ys0 (d0.map arcR) := hyB.mono fun _ _ q => sqt_but kpC hwB q
      have SC : Same H (upd HB wt (.lst (ws0 ++ [.ref lf]))) := fun b o q => kpC b o (ne_of_none q wn) (SAB b o q)
      generalize upd HB wt (.lst (ws0 ++ [.ref lf])) = HC at hwC hlfC hPC hyC SC ⊢
      refine ⟨_, rfl, .inl ⟨rfl, _, SqL.of hwC⟩, _, rfl, lf, rfl, ⟨_, .inl (.inl hlfC)⟩, fun Z hZ => lc_it (walk_list (K := K) (a := lf) (xs := ys0)) (fun i G => (∀ b o, b ≠ Z → HC b = some o → G b = some o) ∧ ∃ acc, G Z = some (.lst acc) ∧ RowsAt K G acc ((mapA (kg k g) (d0.take i)).map arcR)) ?_ ?_ ?_ ?_⟩
      · refine ⟨fun b o ne q => ?_, [], upd_same, .nil⟩
        rw [upd_ne ne]
        exact q
      · rintro i G _ ⟨kp, _⟩
        exact .inl (.inl (kp _ _ (ne_of_none hlfC hZ) hlfC))
      · rintro i x G G' hi ⟨kp, acc, hd, hr⟩ ⟨rfl, hxi⟩
        have SD : Same HC G' := fun b o q => kp b o (ne_of_none q hZ) q
        obtain ⟨c0, q, hc0, rfl, hq'⟩ := arc_get (hyC.same SD) hxi
        have fin : ∀ v1 v2 : V, v1 = nI (kg k g c0.1) → v2 = nI (kg k g c0.2) → ([v1, v2] : List V).length ≤ sizeLine ∧ ∀ p, G' p = none → ∃ acc, (upd G' p (.tup [v1, v2])) Z = some (.lst acc) ∧ acc.length < sizeLine ∧ ((∀ b o, b ≠ Z → HC b = some o → (upd (upd G' p (.tup [v1, v2])) Z (.lst (acc ++ [.ref p]))) b = some o) ∧ ∃ acc2, (upd (upd G' p (.tup [v1, v2])) Z (.lst (acc ++ [.ref p]))) Z = some (.lst acc2) ∧ RowsAt K (upd (upd G' p (.tup [v1, v2])) Z (.lst (acc ++ [.ref p]))) acc2 ((mapA (kg k g) (d0.take (i + 1))).map arcR)) := by
          rintro v1 v2 rfl rfl
          refine ⟨small_size (show 2 ≤ 1000 by decide), fun p hp => ?_⟩
          have u := same_upd (o := .tup [nI (kg k g c0.1), nI (kg k g c0.2)]) hp
          have hd' := u _ _ hd
          refine ⟨acc, hd', small_lt (by rw [hr.1, List.length_map, List.length_map, List.length_take]; omega), fun b o ne q => ?_, acc ++ [.ref p], upd_same, ?_⟩
          · rw [upd_ne ne]
            exact u _ _ (kp b o ne q)
          · rw [take_snoc hc0, mapA, List.map_append, List.map_append]
            exact ((hr.same u).snoc (d := arcR (kg k g c0.1, kg k g c0.2)) ⟨p, rfl, .inl (.inl upd_same)⟩).updL hd'
        have kt : ∀ {x : Nat}, x = g → nI k = nI (kg k g x) := fun e => by
          unfold kg
          rw [if_pos e]
        have kf : ∀ {x : Nat}, ¬ x = g → nI x = nI (kg k g x) := fun e => by
          unfold kg
          rw [if_neg e]
        refine ⟨q, _, rfl, hq', rfl, _, _, rfl, _, _, rfl, rfl, rfl, ?_⟩
        refine ⟨_, rfl, _, rfl, rfl, _, rfl, ite2 (fun b1 => ?_) (fun b1 => ?_)⟩
        · rw [nat_eqb, decide_eq_true_eq] at b1
          refine ⟨_, rfl, _, rfl, _, rfl, rfl, _, rfl, ite2 (fun b2 => ?_) (fun b2 => ?_)⟩
          · rw [nat_eqb, decide_eq_true_eq] at b2
            exact ⟨_, rfl, fin _ _ (kt b1) (kt b2)⟩
          · rw [nat_eqb, decide_eq_true_eq] at b2
            exact ⟨_, rfl, fin _ _ (kt b1) (kf b2)⟩
        · rw [nat_eqb, decide_eq_true_eq] at b1
          refine ⟨_, rfl, _, rfl, _, rfl, rfl, _, rfl, ite2 (fun b2 => ?_) (fun b2 => ?_)⟩
          · rw [nat_eqb, decide_eq_true_eq] at b2
            exact ⟨_, rfl, fin _ _ (kf b1) (kt b2)⟩
          · rw [nat_eqb, decide_eq_true_eq] at b2
            exact ⟨_, rfl, fin _ _ (kf b1) (kf b2)⟩
      rintro G ⟨kp, acc, hd, hr⟩
      have SD : Same HC G := fun b o q => kp b o (ne_of_none q hZ) q
      rw [ly0, List.take_length] at hr
      refine ⟨Z, acc, mapA (kg k g) d0, rfl, .inl (.inl hd), hr, fun c m => ?_, by simp; omega, fun H2 r' ys2 D2 S5 nr2 hr2 hy2 nd2 mem2 => ?_⟩
      · have := in1 c m
        omega
      obtain ⟨pl2, le2, ct2⟩ := plain_of in1 ne1 nd2 mem2
      rw [List.length_map] at le2
      have hwG := SD _ _ hwC
      have hwF := S5 _ _ hwG
      have rw2 : r' ≠ wt := ne_of_some_none nr2 hwG
      refine ⟨wt, _, _, rfl, rfl, hwF, mid_lt (by rw [List.length_append]; simp only [List.length_singleton]; omega), ?_⟩
      have kpF : ∀ b o, b ≠ wt → H2 b = some o → (upd H2 wt (.lst (ws0 ++ [V.ref lf] ++ [V.ref r']))) b = some o := fun b o ne q => by
        rw [upd_ne ne]
        exact q
      have hPF := (((hPC.keep (fun b o _ q => S5 _ _ (SD _ _ q)) hwC).snoc (v := .ref r') (d := D2) ⟨r', ys2, rfl, hr2, rw2, hy2⟩).keep kpF hwF)
      have hm : sum3 (E0 ++ [d0] ++ [D2]) < sum3 E0 + 3 ^ (d0 ++ [(k, g)]).length := by
        rw [sum3_snoc, sum3_snoc, List.length_append]
        simp only [List.length_singleton]
        have z1 : 3 ^ D2.length ≤ 3 ^ d0.length := Nat.pow_le_pow_right (by decide) le2
        have z2 : 3 ^ (d0.length + 1) = 3 * 3 ^ d0.length := by rw [Nat.pow_succ, Nat.mul_comm]
        have z3 : 0 < 3 ^ d0.length := Nat.pow_pos (by decide)
        omega
      refine ⟨⟨fun b o q => kpF b o (ne_of_none q wn) (S5 _ _ (SD _ _ (SC _ _ q))), _, E0 ++ [d0] ++ [D2], num, _, _, _, _, _, _, _, _, _, rfl, upd_same, hPF, fun d m => ?_, ?_, by omega⟩, ?_⟩
      · rcases List.mem_append.mp m with m | m
        · rcases List.mem_append.mp m with m | m
          · exact hpl0 d m
          · rw [List.mem_singleton.mp m]
            exact ⟨pl1, by omega⟩
        · rw [List.mem_singleton.mp m]
          exact ⟨pl2, by omega⟩
      · rw [sumC_snoc, sumC_snoc, ct2]
        omega
      · rw [mu_eq upd_same hPF, mu0]
        exact hm
    · have yn : ys = [] := by
        cases ys with
        | nil => rfl
        | cons y l => exact absurd rfl c1
      subst yn
      have dn : d = [] := List.length_eq_zero_iff.mp ly.symm
      subst dn
      have c1' : cnt [] [] = 1 := by
        rw [KG.cnt_nil, if_pos Acy.nil]
      rw [c1'] at hc
      refine ⟨_, rfl, _, _, rfl, rfl, ?_⟩
      have mA := mu_eq hwA hPA
      refine ⟨⟨SA, ws0, E0, num + 1, _, _, _, _, _, _, _, _, _, rfl, hwA, hPA, hpl0, by omega, l5⟩, ?_⟩
      rw [mA, mu0]
      exact Nat.lt_succ_self _
  · have hn : ws = [] := by
      cases ws with
      | nil => rfl
      | cons y l => exact absurd rfl c
    subst hn
    have en : E = [] := List.length_eq_zero_iff.mp hP.1.symm
    subst en
    have ce : num = cnt [] (arcs Ts) := by simpa [sumC] using hc
    exact ⟨_, rfl, by rw [ce]; exact hq _ S⟩
end
end K3
namespace K3
open PySem PySem.Spec PyProof.Rows L2 He HX KG
section
variable {P : Program} {w : World} {K : PySem.W.Frag} {mg : Str → Option Value} {base : Heap}
def NN_order_list : List PySem.Str := ["web", "grown", "first", "second", "_", "direction", "masks", "step"]
theorem sc_order_list : FnScope NN_order_list ["web"] (defScope (top 24)) := ⟨rfl, rfl, rfl, by decide +kernel, rfl, by decide +kernel, by decide +kernel⟩
theorem ok_order_list (h : HK K mg) (c_start_masks : Cal P w K mg base 1 "start_masks" ["web"] (sp_start_masks K)) (c_with_tie : Cal P w K mg base 2 "with_tie" ["direction", "masks", "first", "second"] (sp_with_tie K)) : Cal P w K mg base 3 "order_list" ["web"] (sp_order_list K) := by
  have F : FunD K "order_list" "order_list" (defArgs (top 24)) (defBody (top 24)) (defScope (top 24)) [] [] (ga K "order_list") (fdA K (ga K "order_list")) := h.says.funD 16
  have wf := h.wf
  have G : FnOk P w K mg base (L2.CX P w) (2 + 1) (ga K "order_list") (fdA K (ga K "order_list")) ["web"] (sp_order_list K) := okX F sc_order_list (fun vs H Q E hs => by (repeat (obtain ⟨_, hs⟩ := hs)) <;> subst_vars <;> rfl) (fun cdv A outer s H vs Q E hr hs => ?_)
  · exact ⟨G, h.glo _, F.kp, F.bindsN (fun _ _ _ _ _ _ us hl => match us, hl with | [_], _ => rfl)⟩
  refine ⟨_, (pss_cons (ps_set (i := 1) sc_order_list.nd rfl (by first | exact Or.inl rfl | exact Or.inr rfl) (pe_lst (pa_cons (pe_tup (pa_cons (pe_tup pa_nil) (pa_cons (pe_cal c_start_masks hr passL (pa_cons (pv 0) pa_nil)) pa_nil))) pa_nil)))
      (pss_cons (ps_for (passes_of rfl) (by rfl) (pi_tup (pe_fld (pv 0) (by rfl))) (pg_tup (by rfl) (pgs_cons (pg_name (i := 2) sc_order_list.nd rfl (by first | exact Or.inl rfl | exact Or.inr rfl)) (pgs_cons (pg_name (i := 3) sc_order_list.nd rfl (by first | exact Or.inl rfl | exact Or.inr rfl)) (pgs_cons (pg_name (i := 4) sc_order_list.nd rfl (by first | exact Or.inl rfl | exact Or.inr rfl)) pgs_nil))))
        (pss_one (ps_setLc2 (i := 1) (own := [("direction", 5), ("masks", 6), ("step", 7)]) (vs1 := [7]) (by rfl) sc_order_list.nd rfl rfl (sw_true rfl rfl rfl (by decide +kernel)) (pi_list (pv 1)) (blkOk_by (own := [("direction", 5), ("masks", 6), ("step", 7)]) (N := NN_order_list) (sc := defScope (top 24)) (by decide +kernel)) (by decide) (fun _ _ _ _ _ => by exact (pg_tupK K rfl (n := 2) (by rfl) (pgs_cons (pg_name (i := 5) sc_order_list.nd rfl (by first | exact Or.inl rfl | exact Or.inr rfl)) (pgs_cons (pg_name (i := 6) sc_order_list.nd rfl (by first | exact Or.inl rfl | exact Or.inr rfl)) pgs_nil)))) (fun _ _ _ _ _ => by exact pts_nil) (fun _ _ _ _ _ => by exact (pi_listK K rfl (pe_cal c_with_tie hr passL (pa_cons (pv 5) (pa_cons (pv 6) (pa_cons (pv 2) (pa_cons (pv 3) pa_nil))))))) (fun _ _ _ _ _ => by exact (pg_name (i := 7) sc_order_list.nd rfl (by first | exact Or.inl rfl | exact Or.inr rfl))) (fun _ _ _ _ _ => by exact pts_nil) (fun _ _ _ _ _ => by exact (pv 7)))))
      (pss_one (ps_ret (pe_lc (own := [("direction", 5), ("_", 4)]) (by rfl) sc_order_list.nd (pi_list (pv 1)) (blkOk_by (own := [("direction", 5), ("_", 4)]) (N := NN_order_list) (sc := defScope (top 24)) (by decide +kernel)) (fun _ _ _ _ _ => by exact (pg_tupK K rfl (n := 2) (by rfl) (pgs_cons (pg_name (i := 5) sc_order_list.nd rfl (by first | exact Or.inl rfl | exact Or.inr rfl)) (pgs_cons (pg_name (i := 4) sc_order_list.nd rfl (by first | exact Or.inl rfl | exact Or.inr rfl)) pgs_nil)))) (fun _ _ _ _ _ => by exact pts_nil) (fun _ _ _ _ _ => by exact (pv 5))))))), ?_⟩
  obtain ⟨a, n, Ts, rfl, hw, gw, hq⟩ := hs
  obtain ⟨dx, t, xs, ha, ht, hx⟩ := id hw
  have n6 := gw.n6
  have lT := gw.len
  have hT := gw.ok.inn
  have lx := rows_len hx
  refine ⟨size0, fun e0 he0 => ?_⟩
  have S1 := same_upd (o := .tup []) he0
  refine ⟨_, rfl, a, n, Ts, rfl, hw.same S1, n6, fun H1 m S2 nm hm => ?_⟩
  have S12 := S1.trans S2
  refine ⟨small_size (show 2 ≤ 1000 by decide), fun p hp => ?_⟩
  have S3 := same_upd (o := .tup [.ref e0, .ref m]) hp
  refine ⟨small_size (show 1 ≤ 1000 by decide), fun g hg => ?_⟩
  have S4 := same_upd (o := .lst [.ref p]) hg
  have SS := (S12.trans S3).trans S4
  have x0 : StepsX K (fun _ => True) (upd (upd H1 p (.tup [.ref e0, .ref m])) g (.lst [.ref p])) [.ref p] [([], startM n)] := by
    refine StepsX.nil.snoc ⟨p, e0, m, rfl, .inl (.inl (S4 _ _ upd_same)), (S2.trans (S3.trans S4)).tup (.inl (.inl upd_same)), (S3.trans S4) _ _ hm, trivial⟩
  refine ⟨_, rfl, a, _, dx, _, _, rfl, SS _ _ ha, wf.cls, wf.no _ (by decide +kernel), rfl, t, rfl, ⟨_, SS.tup ht⟩, for_tup (K := K) (a := t) (xs := xs) (fun i σ H' => Same H H' ∧ ∃ (g : Addr) (ys : List V) (G : List (List Int × List Nat)) (r2 r3 r4 r5 r6 r7 : Option V), σ = [some (.ref a), some (.ref g), r2, r3, r4, r5, r6, r7] ∧ H' g = some (.lst ys) ∧ StepsX K (fun _ => True) H' ys G ∧ G.map Prod.fst = ordL [] ((arcs Ts).take i) ∧ ∀ d ∈ G, Msk n (arcsOf ((arcs Ts).take i) d.1) d.2 ∧ d.1.length = i) ?_ ?_ ?_ ?_⟩
  · refine ⟨SS, g, _, [([], startM n)], _, _, _, _, _, _, rfl, upd_same, x0, ?_, fun d md => ?_⟩
    · rw [List.take_zero]
      show [[]] = ordL [] []
      unfold ordL
      rw [if_pos Acy.nil]
    · rw [List.mem_singleton.mp md]
      exact ⟨startM_ok, rfl⟩
  · rintro i σ H' _ ⟨S, _⟩
    exact S.tup ht
  · rintro i x σ H' hxi ⟨S, g, ys, G, r2, r3, r4, r5, r6, r7, rfl, h1, hG, o1, o2⟩
    obtain ⟨tt, q, ht', rfl, hq'⟩ := tie_get (hx.same S) hxi
    have e := arcs_at ht'
    have ab := in_at hT ht'
    have hi : i < Ts.length := (List.getElem?_eq_some_iff.mp ht').1
    obtain ⟨p1, p2⟩ := steps_ord e ab.1 ab.2 o1 o2
    have big : (growS G tt.1 tt.2.1).length ≤ 1024 := by
      rw [← List.length_map (f := Prod.fst), p1]
      exact ordL_le (by rw [List.length_take]; omega)
    refine ⟨q, _, rfl, hq', rfl, _, _, rfl, _, _, rfl, _, _, rfl, rfl, ?_⟩
    refine ⟨_, rfl, g, rfl, ⟨_, .inl (.inl h1)⟩, fun D hD => lc2_it (walk_list (K := K) (a := g) (xs := ys)) (fun k Hk => (∀ b o, b ≠ D → H' b = some o → Hk b = some o) ∧ ∃ acc, Hk D = some (.lst acc) ∧ StepsX K (fun l => l ≠ D) Hk acc (growS (G.take k) tt.1 tt.2.1)) ?_ ?_ ?_ ?_⟩
    · refine ⟨fun b o ne q => ?_, [], upd_same, .nil⟩
      rw [upd_ne ne]
      exact q
    · rintro k Hk _ ⟨kp, _⟩
      exact .inl (.inl (kp _ _ (ne_of_none h1 hD) h1))
    · rintro k x Hk Hk' hk ⟨kp, acc, hd, st⟩ ⟨rfl, hxk⟩
      have SD : Same H' Hk' := fun b o q => kp b o (ne_of_none q hD) q
      obtain ⟨d, hdk, stx⟩ := hG.get hxk
      obtain ⟨p, qq, l, rfl, g1, g2, g3, _⟩ := stx.same SD
      obtain ⟨mk, ml⟩ := o2 d (List.mem_of_getElem? hdk)
      have gt : growS (G.take (k + 1)) tt.1 tt.2.1 = growS (G.take k) tt.1 tt.2.1 ++ stepsOf d.2 d.1 tt.1 tt.2.1 := by
        unfold growS
        rw [take_snoc hdk, List.flatMap_append]
        simp
      have gs : (growS (G.take (k + 1)) tt.1 tt.2.1).length ≤ 1024 := by
        refine Nat.le_trans ?_ big
        have e3 : growS G tt.1 tt.2.1 = growS (G.take (k + 1)) tt.1 tt.2.1 ++ growS (G.drop (k + 1)) tt.1 tt.2.1 := by
          unfold growS
          rw [← List.flatMap_append, List.take_append_drop]
        rw [e3, List.length_append]
        exact Nat.le_add_right _ _
      rw [gt] at gs ⊢
      refine ⟨p, _, rfl, g1, rfl, _, _, rfl, _, _, rfl, rfl, rfl, ?_⟩
      refine ⟨_, rfl, _, rfl, _, rfl, _, rfl, qq, l, d.1, d.2, tt.1, tt.2.1, rfl, g2, .inl (.inl g3), by rw [mk.1]; exact ab.1, by rw [mk.1]; exact ab.2, by rw [mk.1]; omega, by omega, fun H2 r xs2 S5 nr hr st2 => ?_⟩
      refine ⟨r, rfl, ⟨_, .inl (.inl hr)⟩, lcin_it (walk_list (K := K) (a := r) (xs := xs2)) (fun j Hj => (∀ b o, b ≠ D → H2 b = some o → Hj b = some o) ∧ ∃ acc, Hj D = some (.lst acc) ∧ StepsX K (fun l => l ≠ D) Hj acc (growS (G.take k) tt.1 tt.2.1 ++ (stepsOf d.2 d.1 tt.1 tt.2.1).take j)) ?_ ?_ ?_ ?_⟩
      · exact ⟨fun b o _ q => q, acc, S5 _ _ hd, by rw [List.take_zero, List.append_nil]; exact st.same S5⟩
      · rintro j Hj _ ⟨kp2, _⟩
        exact .inl (.inl (kp2 _ _ (fun z => by rw [z, hd] at nr; cases nr) hr))
      · rintro j x Hj Hj' hj ⟨kp2, acc2, hd2, st3⟩ ⟨rfl, hxj⟩
        obtain ⟨d2, hdj, stx2⟩ := st2.get hxj
        have stx3 := (stx2.imp (P' := fun l => l ≠ D) fun l nl => ne_of_some_none nl hd).keep (D := D) (fun _ z => z) kp2 (S5 _ _ hd)
        refine ⟨rfl, _, rfl, acc2, hd2, mid_lt ?_, fun b o ne q => ?_, acc2 ++ [x], upd_same, ?_⟩
        · rw [st3.1, List.length_append, List.length_take]
          rw [List.length_append] at gs
          omega
        · rw [upd_ne ne]
          exact kp2 b o ne q
        · rw [take_snoc hdj, ← List.append_assoc]
          exact (st3.snoc stx3).keep (D := D) (fun _ z => z) (fun b o ne q => by rw [upd_ne ne]; exact q) hd2
      · rintro Hj ⟨kp2, acc2, hd2, st3⟩
        rw [st2.1, List.take_length] at st3
        exact ⟨fun b o ne q => kp2 b o ne (S5 _ _ (kp b o ne q)), acc2, hd2, st3⟩
    · rintro Hk ⟨kp, acc, hd, st⟩
      rw [hG.1, List.take_length] at st
      exact ⟨fun b o q => kp b o (ne_of_none (S _ _ q) hD) (S _ _ q), D, acc, growS G tt.1 tt.2.1, _, _, _, _, _, _, rfl, hd, st.imp fun _ _ => trivial, p1, p2⟩
  · rintro σ H' ⟨S, g, ys, G, r2, r3, r4, r5, r6, r7, rfl, h1, hG, o1, o2⟩
    rw [lx, show (arcs Ts).take Ts.length = arcs Ts by rw [List.take_of_length_le (by simp)]] at o1
    have big : G.length ≤ 1024 := by
      rw [← List.length_map (f := Prod.fst), o1]
      exact ordL_le (by simp; omega)
    refine ⟨_, rfl, g, rfl, ⟨_, .inl (.inl h1)⟩, fun D hD => lc_it (walk_list (K := K) (a := g) (xs := ys)) (fun k Hk => (∀ b o, b ≠ D → H' b = some o → Hk b = some o) ∧ ∃ acc, Hk D = some (.lst acc) ∧ RowsAt K Hk acc ((G.take k).map Prod.fst)) ?_ ?_ ?_ ?_⟩
    · refine ⟨fun b o ne q => ?_, [], upd_same, .nil⟩
      rw [upd_ne ne]
      exact q
    · rintro k Hk _ ⟨kp, _⟩
      exact .inl (.inl (kp _ _ (ne_of_none h1 hD) h1))
    · rintro k x Hk Hk' hk ⟨kp, acc, hd, st⟩ ⟨rfl, hxk⟩
      have SD : Same H' Hk' := fun b o q => kp b o (ne_of_none q hD) q
      obtain ⟨d, hdk, stx⟩ := hG.get hxk
      obtain ⟨p, qq, l, rfl, g1, g2, g3, _⟩ := stx.same SD
      refine ⟨p, _, rfl, g1, rfl, _, _, rfl, _, _, rfl, rfl, rfl, ?_⟩
      refine ⟨_, rfl, acc, hd, mid_lt (by rw [st.1, List.length_map, List.length_take]; omega), fun b o ne q => ?_, acc ++ [.ref qq], upd_same, ?_⟩
      · rw [upd_ne ne]
        exact kp b o ne q
      · rw [take_snoc hdk, List.map_append]
        exact (st.snoc ⟨qq, rfl, g2⟩).updL hd
    · rintro Hk ⟨kp, acc, hd, st⟩
      rw [hG.1, List.take_length, o1] at st
      exact hq _ D acc (fun b o q => kp b o (ne_of_none (S _ _ q) hD) (S _ _ q)) hd st
end
end K3
namespace K3
open PySem PySem.Spec PyProof.Rows L2 He HX KG
section
variable {P : Program} {w : World} {K : PySem.W.Frag} {mg : Str → Option Value} {base : Heap}
def NN_orders : List PySem.Str := ["web", "direction"]
theorem sc_orders : GScope NN_orders ["web"] (defScope (top 25)) := ⟨rfl, rfl, rfl, by decide +kernel, rfl, by decide +kernel, by decide +kernel⟩
theorem ok_orders (h : HK K mg) (c_order_list : Cal P w K mg base 3 "order_list" ["web"] (sp_order_list K)) : CalG P w K mg base 4 "orders" ["web"] (sp_orders K) := by
  have F : FunD K "orders" "orders" (defArgs (top 25)) (defBody (top 25)) (defScope (top 25)) [] [] (ga K "orders") (fdA K (ga K "orders")) := h.says.funD 17
  have wf := h.wf
  have G : GFn P w K mg base (3 + 1) (ga K "orders") (fdA K (ga K "orders")) ["web"] (sp_orders K) := okG F sc_orders (fun vs H Q E hs => by (repeat (obtain ⟨_, hs⟩ := hs)) <;> subst_vars <;> rfl) (fun cdv A outer s H vs Q E pn hr hs => ?_)
  · exact ⟨G, h.glo _, F.kp, F.bindsN (fun _ _ _ _ _ _ us hl => match us, hl with | [_], _ => rfl)⟩
  refine ⟨_, (gss_cons (gs_for owns_gcx (by rfl) (pi_list (pe_cal c_order_list hr passL (pa_cons (pv 0) pa_nil))) (pg_name (i := 1) sc_orders.nd rfl (by first | exact Or.inl rfl | exact Or.inr rfl))
        (gss_cons (gs_yield (pv 1)) gss_nil))
      gss_nil), ?_⟩
  obtain ⟨a, n, Ts, rfl, hw, gw, hq⟩ := hs
  have lT := gw.len
  refine ⟨_, rfl, a, n, Ts, rfl, hw, gw, fun H1 r xs S1 hr hx => ?_⟩
  have big : xs.length ≤ 1024 := by
    rw [hx.1]
    exact ordL_le (by simp; omega)
  refine ⟨r, rfl, ⟨_, .inl (.inl hr)⟩, gfor_it (walk_list (K := K) (a := r) (xs := xs)) (fun i ys σ H' => H' = H1 ∧ ys = xs.take i ∧ ∃ r1, σ = [some (.ref a), r1]) ?_ ?_ ?_ ?_⟩
  · exact ⟨rfl, rfl, _, rfl⟩
  · rintro i ys σ H' _ ⟨rfl, _⟩
    exact .inl (.inl hr)
  · rintro i x ys σ H' H2 hi ⟨rfl, rfl, r1, rfl⟩ ⟨rfl, hxi⟩
    exact ⟨mid_lt (by rw [List.length_take]; omega), _, rfl, rfl, (take_snoc hxi).symm, _, rfl⟩
  · rintro ys σ H' ⟨rfl, rfl, r1, rfl⟩
    rw [List.take_length]
    exact hq _ xs S1 hx
end
end K3
namespace K3
open PySem PySem.Spec PyProof.Rows L2 He HX KG
section
variable {P : Program} {w : World} {K : PySem.W.Frag} {mg : Str → Option Value} {base : Heap}
def NN_plain_pairs : List PySem.Str := ["pairs", "a", "b"]
theorem sc_plain_pairs : FnScope NN_plain_pairs ["pairs"] (defScope (top 26)) := ⟨rfl, rfl, rfl, by decide +kernel, rfl, by decide +kernel, by decide +kernel⟩
theorem ok_plain_pairs (h : HK K mg) : Cal P w K mg base 1 "plain_pairs" ["pairs"] (sp_plain_pairs K) := by
  have F : FunD K "plain_pairs" "plain_pairs" (defArgs (top 26)) (defBody (top 26)) (defScope (top 26)) [] [] (ga K "plain_pairs") (fdA K (ga K "plain_pairs")) := h.says.funD 18
  have wf := h.wf
  have G : FnOk P w K mg base (L2.CX P w) (0 + 1) (ga K "plain_pairs") (fdA K (ga K "plain_pairs")) ["pairs"] (sp_plain_pairs K) := okX F sc_plain_pairs (fun vs H Q E hs => by (repeat (obtain ⟨_, hs⟩ := hs)) <;> subst_vars <;> rfl) (fun cdv A outer s H vs Q E hr hs => ?_)
  · exact ⟨G, h.glo _, F.kp, F.bindsN (fun _ _ _ _ _ _ us hl => match us, hl with | [_], _ => rfl)⟩
  refine ⟨_, (pss_one (ps_ret (pe_callB (cr_sortedT rfl) (by rfl) (h.free "sorted") (by decide +kernel) (pa_cons (GS.pe_scT (ow := [("a", 1), ("b", 2)]) (Nat.lt_of_le_of_lt (Nat.add_le_add_left (by decide : 1 ≤ 64) _) hr.units) (by rfl) sc_plain_pairs.nd (pi_list (pv 0)) (blkOk_by (own := [("a", 1), ("b", 2)]) (N := NN_plain_pairs) (sc := defScope (top 26)) (by decide +kernel)) (fun _ _ _ _ _ => by exact (pg_tupK K rfl (n := 2) (by rfl) (pgs_cons (pg_name (i := 1) sc_plain_pairs.nd rfl (by first | exact Or.inl rfl | exact Or.inr rfl)) (pgs_cons (pg_name (i := 2) sc_plain_pairs.nd rfl (by first | exact Or.inl rfl | exact Or.inr rfl)) pgs_nil)))) (fun _ _ _ _ _ => by exact pts_nil) (fun _ _ _ _ _ => by exact (pe_tup (pa_cons (pe_callB (call_min2 rfl) (by rfl) (h.free "min") (by decide +kernel) (pa_cons (pv 1) (pa_cons (pv 2) pa_nil))) (pa_cons (pe_callB (call_max2 rfl) (by rfl) (h.free "max") (by decide +kernel) (pa_cons (pv 1) (pa_cons (pv 2) pa_nil))) pa_nil))))) pa_nil)))), ?_⟩
  obtain ⟨l, xs, T, rfl, hl, hx, hT, l60, hq⟩ := hs
  have lx := arows_len hx
  refine ⟨_, rfl, l, rfl, ⟨_, hl⟩, fun D hD => sc_it (K := K) (walk_list (K := K) (a := l) (xs := xs)) (fun i G => (∀ b o, b ≠ D → H b = some o → G b = some o) ∧ ∃ L, G D = some (SetTO P w D L) ∧ (∀ p ∈ L, SqT K G p.1 (p.2.map V.int)) ∧ L.length ≤ i ∧ ∀ r, r ∈ L.map (·.2) ↔ r ∈ ((T.take i).map nrm).map arcR) ?_ ?_ ?_ ?_⟩
  · refine ⟨fun b o ne q => ?_, [], upd_same, fun p m => (by cases m), Nat.le_refl _, fun r => (by simp)⟩
    rw [upd_ne ne]
    exact q
  · rintro i G _ ⟨kp, _⟩
    exact Same.seq (fun b o q => kp b o (ne_of_none q hD) q) hl
  · rintro i x G G' hi ⟨kp, L, hd, hL, ll, hr⟩ ⟨rfl, hxi⟩
    have SD : Same H G' := fun b o q => kp b o (ne_of_none q hD) q
    obtain ⟨t, q, ht, rfl, hq'⟩ := arc_get (hx.same SD) hxi
    refine ⟨q, _, rfl, hq', rfl, _, _, rfl, _, _, rfl, rfl, rfl, ?_⟩
    refine ⟨_, rfl, _, rfl, _, _, rfl, _, rfl, _, rfl, _, _, rfl, small_size (show 2 ≤ 1000 by decide), fun x hx' => ?_⟩
    have emin : (if (t.2 : Int) < (t.1 : Int) then (t.2 : Int) else (t.1 : Int)) = ((min t.1 t.2 : Nat) : Int) := by split <;> omega
    have emax : (if (t.2 : Int) > (t.1 : Int) then (t.2 : Int) else (t.1 : Int)) = ((max t.1 t.2 : Nat) : Int) := by split <;> omega
    have u := same_upd (o := .tup [.int (if (t.2 : Int) < (t.1 : Int) then (t.2 : Int) else (t.1 : Int)), .int (if (t.2 : Int) > (t.1 : Int) then (t.2 : Int) else (t.1 : Int))]) hx'
    have hk : SqT K (upd G' x (.tup [.int (if (t.2 : Int) < (t.1 : Int) then (t.2 : Int) else (t.1 : Int)), .int (if (t.2 : Int) > (t.1 : Int) then (t.2 : Int) else (t.1 : Int))])) x ((arcR (nrm t)).map V.int) := by
      refine .inl (.inl ?_)
      rw [upd_same, emin, emax]
      rfl
    have hd' := u _ _ hd
    have hL' : ∀ p ∈ L, SqT K (upd G' x (.tup [.int (if (t.2 : Int) < (t.1 : Int) then (t.2 : Int) else (t.1 : Int)), .int (if (t.2 : Int) > (t.1 : Int) then (t.2 : Int) else (t.1 : Int))])) p.1 (p.2.map V.int) := fun p m => u.tup (hL p m)
    have kp' : ∀ b o, b ≠ D → H b = some o → upd G' x (.tup [.int (if (t.2 : Int) < (t.1 : Int) then (t.2 : Int) else (t.1 : Int)), .int (if (t.2 : Int) > (t.1 : Int) then (t.2 : Int) else (t.1 : Int))]) b = some o := fun b o ne q => u _ _ (kp b o ne q)
    refine ⟨x, arcR (nrm t), L, rfl, hd', hL', hk, by omega, fun L' c1 c2 => ⟨fun b o ne q => ?_, L', upd_same, ?_, ?_, ?_⟩⟩
    · rw [upd_ne ne]
      exact kp' b o ne q
    · intro p m
      refine sqt_ins hd' (fun _ z => nomatch (show HO.ext _ = HO.tup _ from z)) (fun _ _ z => nomatch (show HO.ext _ = HO.frz _ _ from z)) ?_
      by_cases c : arcR (nrm t) ∈ L.map (·.2)
      · rw [c1 c] at m
        exact hL' p m
      · rcases List.mem_cons.mp ((c2 c).mem_iff.mp m) with rfl | m
        · exact hk
        · exact hL' p m
    · by_cases c : arcR (nrm t) ∈ L.map (·.2)
      · rw [c1 c]
        omega
      · rw [(c2 c).length_eq, List.length_cons]
        omega
    · intro r
      rw [take_snoc ht, List.map_append, List.map_append, List.mem_append, ← hr r]
      show r ∈ L'.map (·.2) ↔ r ∈ L.map (·.2) ∨ r ∈ [arcR (nrm t)]
      by_cases c : arcR (nrm t) ∈ L.map (·.2)
      · rw [c1 c]
        refine ⟨.inl, fun z => z.elim id fun z => ?_⟩
        rw [List.mem_singleton.mp z]
        exact c
      · have z := ((c2 c).map (·.2)).mem_iff (a := r)
        rw [z, List.map_cons, List.mem_cons, List.mem_singleton, or_comm]
  · rintro G ⟨kp, L, hd, hL, ll, hr⟩
    have SD : Same H G := fun b o q => kp b o (ne_of_none q hD) q
    rw [lx, List.take_length] at hr
    have img : ∀ p ∈ L, ∃ c : Arc, c ∈ T.map nrm ∧ p.2 = arcR c := fun p m => by
      obtain ⟨c, mc, e⟩ := List.mem_map.mp ((hr p.2).mp (List.mem_map.mpr ⟨p, m, rfl⟩))
      exact ⟨c, mc, e.symm⟩
    refine ⟨D, L, 2, 6, rfl, hd, hL, by decide, fun p m => ?_, fun L' p pm nd lt pw hp => ?_⟩
    · obtain ⟨c, mc, e⟩ := img p m
      obtain ⟨t, mt, rfl⟩ := List.mem_map.mp mc
      have := hT t mt
      rw [e]
      refine ⟨rfl, fun z mz => ?_⟩
      have hz : z = ((min t.1 t.2 : Nat) : Int) ∨ z = ((max t.1 t.2 : Nat) : Int) := by simpa [arcR, nrm] using mz
      rcases hz with rfl | rfl <;> omega
    · have key : (L'.map fun q => (((q.2.getD 0 0).toNat, (q.2.getD 1 0).toNat) : Arc)).map arcR = L'.map (·.2) := by
        rw [List.map_map]
        refine List.map_congr_left fun q m => ?_
        obtain ⟨c, _, e⟩ := img q (pm.mem_iff.mp m)
        show arcR ((q.2.getD 0 0).toNat, (q.2.getD 1 0).toNat) = q.2
        rw [e]
        simp [arcR]
      refine hq _ p _ (L'.map fun q => (((q.2.getD 0 0).toNat, (q.2.getD 1 0).toNat) : Arc)) (SD.trans (same_upd hp)) (SD.free hp) upd_same ?_ ?_ ?_
      · rw [key]
        refine ⟨by simp, fun i v d e1 e2 => ?_⟩
        rw [List.getElem?_map] at e1 e2
        obtain ⟨q, eq, rfl⟩ := Option.map_eq_some_iff.mp e1
        rw [eq] at e2
        cases e2
        exact ⟨q.1, rfl, (same_upd hp).tup (hL q (pm.mem_iff.mp (List.mem_of_getElem? eq)))⟩
      · rw [← key] at nd
        exact (List.pairwise_map.mp nd).imp fun ne e => ne (by rw [e])
      · intro c
        have k1 : c ∈ (L'.map fun q => (((q.2.getD 0 0).toNat, (q.2.getD 1 0).toNat) : Arc)) ↔ arcR c ∈ L'.map (·.2) := by
          rw [← key]
          refine ⟨fun m => List.mem_map.mpr ⟨c, m, rfl⟩, fun m => ?_⟩
          obtain ⟨c', mc, e⟩ := List.mem_map.mp m
          rw [← arcR_inj e]
          exact mc
        rw [k1, (pm.map (·.2)).mem_iff, hr]
        refine ⟨fun m => ?_, fun m => List.mem_map.mpr ⟨c, m, rfl⟩⟩
        obtain ⟨c', mc, e⟩ := List.mem_map.mp m
        rw [← arcR_inj e]
        exact mc
end
end K3
namespace K3
open PySem PySem.Spec PyProof.Rows L2 He HX KG
section
variable {P : Program} {w : World} {K : PySem.W.Frag} {mg : Str → Option Value} {base : Heap}
def NN_start_masks : List PySem.Str := ["web", "place"]
theorem sc_start_masks : FnScope NN_start_masks ["web"] (defScope (top 21)) := ⟨rfl, rfl, rfl, by decide +kernel, rfl, by decide +kernel, by decide +kernel⟩
theorem ok_start_masks (h : HK K mg) : Cal P w K mg base 1 "start_masks" ["web"] (sp_start_masks K) := by
  have F : FunD K "start_masks" "start_masks" (defArgs (top 21)) (defBody (top 21)) (defScope (top 21)) [] [] (ga K "start_masks") (fdA K (ga K "start_masks")) := h.says.funD 13
  have wf := h.wf
  have G : FnOk P w K mg base (L2.CX P w) (0 + 1) (ga K "start_masks") (fdA K (ga K "start_masks")) ["web"] (sp_start_masks K) := okX F sc_start_masks (fun vs H Q E hs => by (repeat (obtain ⟨_, hs⟩ := hs)) <;> subst_vars <;> rfl) (fun cdv A outer s H vs Q E hr hs => ?_)
  · exact ⟨G, h.glo _, F.kp, F.bindsN (fun _ _ _ _ _ _ us hl => match us, hl with | [_], _ => rfl)⟩
  refine ⟨_, (pss_one (ps_ret (pe_lc (own := [("place", 1)]) (by rfl) sc_start_masks.nd (pi_range1 (by rfl) (h.free "range") (pa_cons (pe_fld (pv 0) (by rfl)) pa_nil)) (blkOk_by (own := [("place", 1)]) (N := NN_start_masks) (sc := defScope (top 21)) (by decide +kernel)) (fun _ _ _ _ _ => by exact (pg_name (i := 1) sc_start_masks.nd rfl (by first | exact Or.inl rfl | exact Or.inr rfl))) (fun _ _ _ _ _ => by exact pts_nil) (fun _ _ _ _ _ => by exact (pe_op op_oneShl pe_int (pv 1)))))), ?_⟩
  obtain ⟨a, n, Ts, rfl, ⟨dx, t, xs, ha, ht, hr'⟩, hn, hq⟩ := hs
  refine ⟨_, rfl, a, _, dx, _, _, rfl, ha, wf.cls, wf.no _ (by decide +kernel), rfl, n, rfl, by omega, by omega, fun D hD => lc_range (lo := 0) (n := n) (fun i H' => H' = upd H D (.lst (((List.range n).take i).map fun p => nI (2 ^ p)))) rfl ?_ ?_⟩
  · rintro i H' hi rfl
    refine ⟨rfl, _, rfl, i, rfl, congrArg V.int (Int.zero_add _), by omega, lcs (List.getElem?_range hi) (by simp; omega) (by rw [pow2_cast])⟩
  · rintro H' rfl
    refine hq _ D (same_upd hD) hD ?_
    rw [upd_same, List.take_of_length_le (by simp)]
    unfold startM nL
    rw [List.map_map]
    rfl
end
end K3
namespace K3
open PySem PySem.Spec PyProof.Rows L2 He HX KG
section
variable {P : Program} {w : World} {K : PySem.W.Frag} {mg : Str → Option Value} {base : Heap}
def NN_tree_and_free : List PySem.Str := ["web", "marks", "tree", "free", "index", "first", "second", "_"]
theorem sc_tree_and_free : FnScope NN_tree_and_free ["web"] (defScope (top 14)) := ⟨rfl, rfl, rfl, by decide +kernel, rfl, by decide +kernel, by decide +kernel⟩
theorem ok_tree_and_free (h : HK K mg) (c_joined_marks : Cal P w K mg base 1 "joined_marks" ["marks", "first", "second"] (sp_joined_marks K)) : Cal P w K mg base 2 "tree_and_free" ["web"] (sp_tree_and_free K) := by
  have F : FunD K "tree_and_free" "tree_and_free" (defArgs (top 14)) (defBody (top 14)) (defScope (top 14)) [] [] (ga K "tree_and_free") (fdA K (ga K "tree_and_free")) := h.says.funD 7
  have wf := h.wf
  have G : FnOk P w K mg base (L2.CX P w) (1 + 1) (ga K "tree_and_free") (fdA K (ga K "tree_and_free")) ["web"] (sp_tree_and_free K) := okX F sc_tree_and_free (fun vs H Q E hs => by (repeat (obtain ⟨_, hs⟩ := hs)) <;> subst_vars <;> rfl) (fun cdv A outer s H vs Q E hr hs => ?_)
  · exact ⟨G, h.glo _, F.kp, F.bindsN (fun _ _ _ _ _ _ us hl => match us, hl with | [_], _ => rfl)⟩
  refine ⟨_, (pss_cons (ps_set (i := 1) sc_tree_and_free.nd rfl (by first | exact Or.inl rfl | exact Or.inr rfl) (pe_listRg (by rfl) (by rfl) (h.free "list") (prg_1 (by rfl) (h.free "range") (pe_fld (pv 0) (by rfl)))))
      (pss_cons (ps_set (i := 2) sc_tree_and_free.nd rfl (by first | exact Or.inl rfl | exact Or.inr rfl) (pe_lst pa_nil))
      (pss_cons (ps_set (i := 3) sc_tree_and_free.nd rfl (by first | exact Or.inl rfl | exact Or.inr rfl) (pe_lst pa_nil))
      (pss_cons (ps_for (passes_of rfl) (by rfl) (pi_enumT (by rfl) (h.free "enumerate") (pa_cons (pe_fld (pv 0) (by rfl)) pa_nil)) (pg_tup (by rfl) (pgs_cons (pg_name (i := 4) sc_tree_and_free.nd rfl (by first | exact Or.inl rfl | exact Or.inr rfl)) (pgs_cons (pg_tup (by rfl) (pgs_cons (pg_name (i := 5) sc_tree_and_free.nd rfl (by first | exact Or.inl rfl | exact Or.inr rfl)) (pgs_cons (pg_name (i := 6) sc_tree_and_free.nd rfl (by first | exact Or.inl rfl | exact Or.inr rfl)) (pgs_cons (pg_name (i := 7) sc_tree_and_free.nd rfl (by first | exact Or.inl rfl | exact Or.inr rfl)) pgs_nil)))) pgs_nil)))
        (pss_one (ps_if (pt_cmpR op_eq (pe_ix ix_list (pv 1) (pv 5) (fun _ _ => rfl)) (pe_ix ix_list (pv 1) (pv 6) (fun _ _ => rfl)) (nomark _))
          (pss_one (ps_expr (pe_bm PySem.F.plainAttrs_list PySem.F.slot_list_append PySem.F.type_list_append mt_append (pv 3) (pa_cons (pv 4) pa_nil))))
          (pss_cons (ps_expr (pe_bm PySem.F.plainAttrs_list PySem.F.slot_list_append PySem.F.type_list_append mt_append (pv 2) (pa_cons (pv 4) pa_nil)))
          (pss_one (ps_set (i := 1) sc_tree_and_free.nd rfl (by first | exact Or.inl rfl | exact Or.inr rfl) (pe_cal c_joined_marks hr passL (pa_cons (pv 1) (pa_cons (pv 5) (pa_cons (pv 6) pa_nil))))))))))
      (pss_one (ps_ret (pe_tup (pa_cons (pv 2) (pa_cons (pv 3) pa_nil))))))))), ?_⟩
  obtain ⟨a, n, Ts, rfl, hw, gw, hq⟩ := hs
  obtain ⟨dx, t, xs, ha, ht, hx⟩ := id hw
  have n6 := gw.n6
  have lT := gw.len
  have hT := gw.ok.inn
  have lx := rows_len hx
  refine ⟨_, rfl, a, _, dx, _, _, rfl, ha, wf.cls, wf.no _ (by decide +kernel), rfl, n, rfl, RgOk.of_le (by omega) (by omega) (by omega) (by omega), fun m hm => ?_⟩
  rw [rgV_nat]
  have S1 := same_upd (o := .lst (nL (List.range n))) hm
  refine ⟨size0, fun tr htr => ⟨size0, fun fr hfr => ?_⟩⟩
  have S2 := S1.trans (same_upd (o := .lst []) htr)
  have S3 := S2.trans (same_upd (o := .lst []) hfr)
  have tn : H tr = none := S1.free htr
  have fn : H fr = none := S2.free hfr
  have tf : tr ≠ fr := fun z => by
    rw [← z, upd_same] at hfr
    cases hfr
  refine ⟨_, rfl, a, _, dx, _, _, rfl, S3 _ _ ha, wf.cls, wf.no _ (by decide +kernel), rfl, t, xs, rfl, S3.tup ht, for_it (walk_enumT (K := K) (a := t) (xs := xs)) (fun i σ H' => Same H H' ∧ ∃ (m : Addr) (ms tree F : List Nat) (r4 r5 r6 r7 : Option V), σ = [some (.ref a), some (.ref m), some (.ref tr), some (.ref fr), r4, r5, r6, r7] ∧ H' m = some (.lst (nL ms)) ∧ m ≠ tr ∧ m ≠ fr ∧ H' tr = some (.lst (nL tree)) ∧ H' fr = some (.lst (nL F)) ∧ TF n (arcs Ts) i tree F ms ∧ tree.length + F.length ≤ i) ?_ ?_ ?_ ?_⟩
  · refine ⟨S3, m, List.range n, [], [], _, _, _, _, rfl, ?_, ?_, ?_, ?_, ?_, TF.start, Nat.le_refl _⟩
    · exact same_upd hfr _ _ (same_upd htr _ _ upd_same)
    · exact fun z => by
        rw [← z, upd_same] at htr
        cases htr
    · exact fun z => by
        have := same_upd (o := .lst []) htr _ _ (upd_same (H := H) (a := m) (o := .lst (nL (List.range n))))
        rw [← z, this] at hfr
        cases hfr
    · exact same_upd hfr _ _ upd_same
    · exact upd_same
  · rintro i σ H' _ ⟨S, _⟩
    exact S.tup ht
  · rintro i x σ H' H1 hi ⟨S, m, ms, tree, F, r4, r5, r6, r7, rfl, h1, mt, mf, h2, h3, tF, ll⟩ ⟨T, x1, x2, rfl, nT, rfl, e1, e2⟩
    cases e1
    obtain ⟨tt, q, ht', rfl, hq'⟩ := tie_get (hx.same S) e2
    have ab := in_at hT ht'
    have e := arcs_at ht'
    have lm := tF.mks.1
    obtain ⟨p1, hp1⟩ : ∃ p, ms[tt.1]? = some p := ⟨_, List.getElem?_eq_getElem (by omega)⟩
    obtain ⟨p2, hp2⟩ : ∃ p, ms[tt.2.1]? = some p := ⟨_, List.getElem?_eq_getElem (by omega)⟩
    have u := same_upd (o := .tup [.int (i : Nat), .ref q]) nT
    refine ⟨T, _, rfl, .inl (.inl upd_same), rfl, _, _, rfl, _, _, rfl, q, _, rfl, u.tup hq', rfl, _, _, rfl, _, _, rfl, _, _, rfl, rfl, rfl, ?_⟩
    refine ⟨_, rfl, _, rfl, m, _, _, _, rfl, rfl, .inl (.inl (u _ _ h1)), nL_atI hp1, _, rfl, _, rfl, m, _, _, _, rfl, rfl, .inl (.inl (u _ _ h1)), nL_atI hp2, rfl, _, rfl, ite2 (fun c => ?_) (fun c => ?_)⟩
    · rw [nat_eqb, decide_eq_true_eq] at c
      refine ⟨_, rfl, .inl ⟨rfl, _, SqL.of (u _ _ h3)⟩, _, rfl, fr, _, _, rfl, rfl, u _ _ h3, small_lt (by rw [len_nL]; omega), ?_⟩
      refine ⟨fun b o q => ?_, m, ms, tree, F ++ [i], _, _, _, _, rfl, ?_, mt, mf, ?_, ?_, tF.free e hp1 hp2 c, ?_⟩
      · rw [upd_ne (ne_of_none q fn)]
        exact u _ _ (S _ _ q)
      · rw [upd_ne mf]
        exact u _ _ h1
      · rw [upd_ne tf]
        exact u _ _ h2
      · rw [upd_same, nL_snoc]
      · rw [List.length_append]
        simp only [List.length_singleton]
        omega
    · rw [nat_eqb, decide_eq_true_eq] at c
      refine ⟨_, rfl, .inl ⟨rfl, _, SqL.of (u _ _ h2)⟩, _, rfl, tr, _, _, rfl, rfl, u _ _ h2, small_lt (by rw [len_nL]; omega), ?_⟩
      have h1' : (upd (upd H' T (.tup [.int (i : Nat), .ref q])) tr (.lst (nL tree ++ [nI i]))) m = some (.lst (nL ms)) := by
        rw [upd_ne mt]
        exact u _ _ h1
      refine ⟨_, rfl, _, rfl, _, rfl, m, ms, _, _, p1, p2, rfl, .inl (.inl h1'), hp1, hp2, by omega, fun H2 r S4 nr hr => ?_⟩
      have g2 : H2 tr = some (.lst (nL (tree ++ [i]))) := S4 _ _ (by rw [upd_same, nL_snoc])
      have g3 : H2 fr = some (.lst (nL F)) := S4 _ _ (by rw [upd_ne (Ne.symm tf)]; exact u _ _ h3)
      refine ⟨fun b o q => S4 _ _ ?_, r, renM ms p1 p2, tree ++ [i], F, _, _, _, _, rfl, hr, ?_, ?_, g2, g3, tF.tie e hp1 hp2 c, ?_⟩
      · rw [upd_ne (ne_of_none q tn)]
        exact u _ _ (S _ _ q)
      · exact fun z => by
          rw [z, upd_same] at nr
          cases nr
      · exact fun z => by
          rw [z, upd_ne (Ne.symm tf), u _ _ h3] at nr
          cases nr
      · rw [List.length_append]
        simp only [List.length_singleton]
        omega
  · rintro σ H' ⟨S, m, ms, tree, F, r4, r5, r6, r7, rfl, h1, mt, mf, h2, h3, tF, ll⟩
    rw [lx] at tF ll
    refine ⟨_, rfl, _, rfl, small_size (show 2 ≤ 1000 by decide), fun q nq => ?_⟩
    have u := same_upd (o := .tup [.ref tr, .ref fr]) nq
    exact hq _ q tr fr tree F ms (S.trans u) (.inl (.inl upd_same)) (.inl (.inl (u _ _ h2))) (.inl (.inl (u _ _ h3))) tF (by omega)
end
end K3
namespace K3
open PySem PySem.Spec PyProof.Rows L2 He HX KG
section
variable {P : Program} {w : World} {K : PySem.W.Frag} {mg : Str → Option Value} {base : Heap}
def NN_turn_count : List PySem.Str := ["web"]
theorem sc_turn_count : FnScope NN_turn_count ["web"] (defScope (top 31)) := ⟨rfl, rfl, rfl, by decide +kernel, rfl, by decide +kernel, by decide +kernel⟩
theorem ok_turn_count (h : HK K mg) (c_look_joined : Cal P w K mg base 7 "look_joined" ["web"] (sp_look_joined K)) (c_turn_list : Cal P w K mg base 9 "turn_list" ["web"] (sp_turn_list K)) : Cal P w K mg base 10 "turn_count" ["web"] (sp_turn_count K) := by
  have F : FunD K "turn_count" "turn_count" (defArgs (top 31)) (defBody (top 31)) (defScope (top 31)) [] [] (ga K "turn_count") (fdA K (ga K "turn_count")) := h.says.funD 23
  have wf := h.wf
  have G : FnOk P w K mg base (L2.CX P w) (9 + 1) (ga K "turn_count") (fdA K (ga K "turn_count")) ["web"] (sp_turn_count K) := okX F sc_turn_count (fun vs H Q E hs => by (repeat (obtain ⟨_, hs⟩ := hs)) <;> subst_vars <;> rfl) (fun cdv A outer s H vs Q E hr hs => ?_)
  · exact ⟨G, h.glo _, F.kp, F.bindsN (fun _ _ _ _ _ _ us hl => match us, hl with | [_], _ => rfl)⟩
  refine ⟨_, (pss_cons (ps_expr (pe_cal c_look_joined hr (passes_call (takes_of rfl rfl rfl rfl) (fun _ _ _ _ h => h)) (pa_cons (pv 0) pa_nil)))
      (pss_one (ps_ret (pe_callB call_len_seq (by rfl) (h.free "len") (by decide +kernel) (pa_cons (pe_cal c_turn_list hr passL (pa_cons (pv 0) pa_nil)) pa_nil))))), ?_⟩
  obtain ⟨a, n, Ts, rfl, hw, gw, h1, h2⟩ := hs
  refine ⟨_, rfl, a, n, Ts, rfl, hw, gw, fun jn H1 S1 => ?_, fun nj => h2 nj⟩
  refine ⟨_, rfl, a, n, Ts, rfl, hw.same S1, gw, jn, fun H2 r xs S2 hr hx => ?_⟩
  refine ⟨r, _, rfl, .inl (.inl (.inl hr)), ?_⟩
  rw [hx.1]
  exact h1 jn _ (S1.trans S2)
end
end K3
namespace K3
open PySem PySem.Spec PyProof.Rows L2 He HX KG
section
variable {P : Program} {w : World} {K : PySem.W.Frag} {mg : Str → Option Value} {base : Heap}
def NN_turn_list : List PySem.Str := ["web", "idle", "grown", "index", "numbers", "direction", "number"]
theorem sc_turn_list : FnScope NN_turn_list ["web"] (defScope (top 29)) := ⟨rfl, rfl, rfl, by decide +kernel, rfl, by decide +kernel, by decide +kernel⟩
theorem ok_turn_list (h : HK K mg) (c_bridges : Cal P w K mg base 8 "bridges" ["web"] (sp_bridges K)) (c_has_walks : Cal P w K mg base 2 "has_walks" ["web", "direction"] (sp_has_walks K)) : Cal P w K mg base 9 "turn_list" ["web"] (sp_turn_list K) := by
  have F : FunD K "turn_list" "turn_list" (defArgs (top 29)) (defBody (top 29)) (defScope (top 29)) [] [] (ga K "turn_list") (fdA K (ga K "turn_list")) := h.says.funD 21
  have wf := h.wf
  have G : FnOk P w K mg base (L2.CX P w) (8 + 1) (ga K "turn_list") (fdA K (ga K "turn_list")) ["web"] (sp_turn_list K) := okX F sc_turn_list (fun vs H Q E hs => by (repeat (obtain ⟨_, hs⟩ := hs)) <;> subst_vars <;> rfl) (fun cdv A outer s H vs Q E hr hs => ?_)
  · exact ⟨G, h.glo _, F.kp, F.bindsN (fun _ _ _ _ _ _ us hl => match us, hl with | [_], _ => rfl)⟩
  refine ⟨_, (pss_cons (ps_set (i := 1) sc_turn_list.nd rfl (by first | exact Or.inl rfl | exact Or.inr rfl) (pe_cal c_bridges hr passL (pa_cons (pv 0) pa_nil)))
      (pss_cons (ps_set (i := 2) sc_turn_list.nd rfl (by first | exact Or.inl rfl | exact Or.inr rfl) (pe_lst (pa_cons (pe_tup pa_nil) pa_nil)))
      (pss_cons (ps_for (passes_of rfl) (by rfl) (pi_range1 (by rfl) (h.free "range") (pa_cons (pe_callB call_len_seq (by rfl) (h.free "len") (by decide +kernel) (pa_cons (pe_fld (pv 0) (by rfl)) pa_nil)) pa_nil)) (pg_name (i := 3) sc_turn_list.nd rfl (by first | exact Or.inl rfl | exact Or.inr rfl))
        (pss_cons (ps_set (i := 4) sc_turn_list.nd rfl (by first | exact Or.inl rfl | exact Or.inr rfl) (pe_ifExp (pt_cmpR op_in_seq (pv 3) (pv 1) (by rfl)) (pe_tup (pa_cons pe_int pa_nil)) (pe_tup (pa_cons (pe_un un_neg pe_int) (pa_cons pe_int pa_nil)))))
        (pss_one (ps_setLc2 (i := 2) (own := [("direction", 5), ("number", 6)]) (vs1 := [6]) (by rfl) sc_turn_list.nd rfl rfl (sw_true rfl rfl rfl (by decide +kernel)) (pi_list (pv 2)) (blkOk_by (own := [("direction", 5), ("number", 6)]) (N := NN_turn_list) (sc := defScope (top 29)) (by decide +kernel)) (by decide) (fun _ _ _ _ _ => by exact (pg_name (i := 5) sc_turn_list.nd rfl (by first | exact Or.inl rfl | exact Or.inr rfl))) (fun _ _ _ _ _ => by exact pts_nil) (fun _ _ _ _ _ => by exact (pi_tupK K rfl (pv 4))) (fun _ _ _ _ _ => by exact (pg_name (i := 6) sc_turn_list.nd rfl (by first | exact Or.inl rfl | exact Or.inr rfl))) (fun _ _ _ _ _ => by exact pts_nil) (fun _ _ _ _ _ => by exact (pe_op (op_catAK K rfl) (pv 5) (pe_tup (pa_cons (pv 6) pa_nil))))))))
      (pss_one (ps_ret (pe_lc (own := [("direction", 5)]) (by rfl) sc_turn_list.nd (pi_list (pv 2)) (blkOk_by (own := [("direction", 5)]) (N := NN_turn_list) (sc := defScope (top 29)) (by decide +kernel)) (fun _ _ _ _ _ => by exact (pg_name (i := 5) sc_turn_list.nd rfl (by first | exact Or.inl rfl | exact Or.inr rfl))) (fun _ _ _ _ _ => by exact (pts_one (pt_val (pe_cal c_has_walks hr passL (pa_cons (pv 0) (pa_cons (pv 5) pa_nil)))))) (fun _ _ _ _ _ => by exact (pv 5)))))))), ?_⟩
  obtain ⟨a, n, Ts, rfl, hw, gw, jn, hq⟩ := hs
  have lT := gw.len
  have laT : (arcs Ts).length = Ts.length := by simp
  refine ⟨_, rfl, a, n, Ts, rfl, hw, gw, jn, fun H1 q S1 hq1 => ?_⟩
  obtain ⟨dx, t, xs, ha, ht, hx⟩ := id (hw.same S1)
  have lx := rows_len hx
  have mle : ∀ m ∈ menusL n (arcs Ts), m.length ≤ 2 := fun m h => by
    rcases menusL_mem h with rfl | rfl <;> decide
  refine ⟨size0, fun e0 he0 => ?_⟩
  have S2 := same_upd (o := .tup []) he0
  refine ⟨small_size (show 1 ≤ 1000 by decide), fun g0 hg0 => ?_⟩
  have S3 := same_upd (o := .lst [.ref e0]) hg0
  have S23 := S2.trans S3
  refine ⟨_, rfl, a, _, dx, _, _, rfl, S23 _ _ ha, wf.cls, wf.no _ (by decide +kernel), rfl, t, _, rfl, .inr (S23.tup ht), _, rfl, by omega, by omega, for_range (n := xs.length) (fun i σ H' => Same H1 H' ∧ ∃ (g : Addr) (ys : List V) (r3 r4 r5 r6 : Option V), σ = [some (.ref a), some (.ref q), some (.ref g), r3, r4, r5, r6] ∧ H' g = some (.lst ys) ∧ RowsAt K H' ys (growW [[]] ((menusL n (arcs Ts)).take i))) ?_ ?_ ?_⟩
  · exact ⟨S23, g0, _, _, _, _, _, rfl, upd_same, RowsAt.nil.snoc (d := []) ⟨e0, rfl, S3.tup (.inl (.inl upd_same))⟩⟩
  · rintro i σ H' hi ⟨S, g, ys, r3, r4, r5, r6, rfl, h1, h2⟩
    rw [show (0 : Int) + (i : Nat) = (i : Int) from Int.zero_add _]
    have hi' : i < Ts.length := by omega
    have gl := growW_le (ms := (menusL n (arcs Ts)).take i) (by rw [List.length_take, menusL_len]; omega) fun m h => mle m (List.mem_of_mem_take h)
    have ml : (menusL n (arcs Ts)).length ≤ 10 := by
      rw [menusL_len]
      omega
    refine ⟨_, rfl, _, rfl, q, _, rfl, .inr (S.tup hq1), rfl, flat_nL _, _, rfl, ?_⟩
    rw [if_neg Bool.false_ne_true, inV_nat]
    refine ite2 (fun c => ?_) (fun c => ?_)
    · rw [decide_eq_true_eq] at c
      refine ⟨small_size (show 1 ≤ 1000 by decide), fun p hp => ?_⟩
      have u0 := same_upd (o := .tup [.int 0]) hp
      have hm0 : SqT K (upd H' p (.tup [.int 0])) p (iL [0]) := .inl (.inl upd_same)
      have em : (menusL n (arcs Ts))[i]? = some [0] := by
        rw [menusL_at (by simpa using hi')]
        exact congrArg some (if_pos c)
      have h1' := u0 _ _ h1
      have h2' := h2.same u0
      have SU := S.trans u0
      generalize upd H' p (.tup [.int 0]) = HA at u0 hm0 h1' h2' SU ⊢
      refine ⟨_, rfl, g, rfl, ⟨_, .inl (.inl h1')⟩, fun D hD => lc2_it (walk_list (K := K) (a := g) (xs := ys)) (fun k Hk => (∀ b o, b ≠ D → HA b = some o → Hk b = some o) ∧ ∃ acc, Hk D = some (.lst acc) ∧ RowsAt K Hk acc (((growW [[]] ((menusL n (arcs Ts)).take i)).take k).flatMap fun w => ([0] : List Int).map fun s => w ++ [s])) ?_ ?_ ?_ ?_⟩
      · refine ⟨fun b o ne q => ?_, [], upd_same, .nil⟩
        rw [upd_ne ne]
        exact q
      · rintro k Hk _ ⟨kp, _⟩
        exact .inl (.inl (kp _ _ (ne_of_none h1' hD) h1'))
      · rintro k x Hk Hk' hk ⟨kp, acc, hd, st⟩ ⟨rfl, hxk⟩
        have SD : Same HA Hk' := fun b o q => kp b o (ne_of_none q hD) q
        obtain ⟨wv, hwk, q2, rfl, hq2⟩ := (h2'.same SD).get hxk
        have lw := growW_len (List.mem_of_getElem? hwk)
        rw [List.length_take] at lw
        rw [take_snoc hwk, List.flatMap_append, show List.flatMap (fun w => ([0] : List Int).map fun s => w ++ [s]) [wv] = ([0] : List Int).map fun s => wv ++ [s] by simp]
        refine ⟨rfl, _, rfl, p, rfl, ⟨_, SD.tup hm0⟩, lcin_it (walk_tup (K := K) (a := p) (xs := iL [0])) (fun j Hj => (∀ b o, b ≠ D → Hk' b = some o → Hj b = some o) ∧ ∃ acc, Hj D = some (.lst acc) ∧ RowsAt K Hj acc ((((growW [[]] ((menusL n (arcs Ts)).take i)).take k).flatMap fun w => ([0] : List Int).map fun s => w ++ [s]) ++ (([0] : List Int).map fun s => wv ++ [s]).take j)) ?_ ?_ ?_ ?_⟩
        · exact ⟨fun b o _ q => q, acc, hd, by rw [List.take_zero, List.append_nil]; exact st⟩
        · rintro j Hj _ ⟨kp2, _⟩
          exact sqt_but kp2 hd (SD.tup hm0)
        · rintro j x Hj Hj' hj ⟨kp2, acc2, hd2, st2⟩ ⟨rfl, hxj⟩
          obtain ⟨s, hsj, rfl⟩ := iL_get hxj
          refine ⟨rfl, _, rfl, _, rfl, small_size (show 1 ≤ 1000 by decide), fun z hz => ?_⟩
          have u1 := same_upd (o := .tup [.int s]) hz
          refine rd_cat1 (u1.tup (sqt_but kp2 hd hq2)) (.inl (.inl upd_same)) (by omega) fun H3 u S3 hu => ?_
          have S4 := u1.trans S3
          have hd4 := S4 _ _ hd2
          refine ⟨acc2, hd4, mid_lt ?_, fun b o ne q => ?_, acc2 ++ [.ref u], upd_same, ?_⟩
          · rw [st2.1, List.length_append, List.length_take, List.length_map]
            have z1 : (((growW [[]] ((menusL n (arcs Ts)).take i)).take k).flatMap fun w => ([0] : List Int).map fun s => w ++ [s]).length ≤ 2048 := by
              rw [List.length_flatMap]
              have z2 : ∀ l : List (List Int), (l.map fun w => (([0] : List Int).map fun s => w ++ [s]).length).sum ≤ 2 * l.length := fun l => by
                induction l with
                | nil => exact Nat.le_refl _
                | cons a l ih =>
                  rw [List.map_cons, List.sum_cons, List.length_map, show (a :: l).length = l.length + 1 from rfl]
                  have z3 : ([0] : List Int).length ≤ 2 := by decide
                  omega
              refine Nat.le_trans (z2 _) ?_
              rw [List.length_take]
              omega
            have z3 : ([0] : List Int).length ≤ 2 := by decide
            omega
          · rw [upd_ne ne]
            exact S4 _ _ (kp2 b o ne q)
          · exact ((st2.same S4).app (by rw [List.getElem?_map, hsj]; rfl) ⟨u, rfl, hu⟩).updL hd4
        · rintro Hj ⟨kp2, acc2, hd2, st2⟩
          rw [show (([0] : List Int).map fun s => wv ++ [s]).take (iL [0]).length = ([0] : List Int).map fun s => wv ++ [s] from List.take_of_length_le (by rw [List.length_map, len_iL]; exact Nat.le_refl _)] at st2
          exact ⟨fun b o ne q => kp2 b o ne (kp b o ne q), acc2, hd2, st2⟩
      · rintro Hk ⟨kp, acc, hd, st⟩
        rw [h2'.1, List.take_length, ← growW_snoc, ← take_snoc em] at st
        exact ⟨fun b o q => kp b o (ne_of_none (SU _ _ q) hD) (SU _ _ q), D, acc, _, _, _, _, rfl, hd, st⟩
    · rw [decide_eq_true_eq] at c
      refine ⟨_, rfl, small_size (show 2 ≤ 1000 by decide), fun p hp => ?_⟩
      have u0 := same_upd (o := .tup [.int (-1), .int 1]) hp
      have hm0 : SqT K (upd H' p (.tup [.int (-1), .int 1])) p (iL [-1, 1]) := .inl (.inl upd_same)
      have em : (menusL n (arcs Ts))[i]? = some [-1, 1] := by
        rw [menusL_at (by simpa using hi')]
        exact congrArg some (if_neg c)
      have h1' := u0 _ _ h1
      have h2' := h2.same u0
      have SU := S.trans u0
      generalize upd H' p (.tup [.int (-1), .int 1]) = HA at u0 hm0 h1' h2' SU ⊢
      refine ⟨_, rfl, g, rfl, ⟨_, .inl (.inl h1')⟩, fun D hD => lc2_it (walk_list (K := K) (a := g) (xs := ys)) (fun k Hk => (∀ b o, b ≠ D → HA b = some o → Hk b = some o) ∧ ∃ acc, Hk D = some (.lst acc) ∧ RowsAt K Hk acc (((growW [[]] ((menusL n (arcs Ts)).take i)).take k).flatMap fun w => ([-1, 1] : List Int).map fun s => w ++ [s])) ?_ ?_ ?_ ?_⟩
      · refine ⟨fun b o ne q => ?_, [], upd_same, .nil⟩
        rw [upd_ne ne]
        exact q
      · rintro k Hk _ ⟨kp, _⟩
        exact .inl (.inl (kp _ _ (ne_of_none h1' hD) h1'))
      · rintro k x Hk Hk' hk ⟨kp, acc, hd, st⟩ ⟨rfl, hxk⟩
        have SD : Same HA Hk' := fun b o q => kp b o (ne_of_none q hD) q
        obtain ⟨wv, hwk, q2, rfl, hq2⟩ := (h2'.same SD).get hxk
        have lw := growW_len (List.mem_of_getElem? hwk)
        rw [List.length_take] at lw
        rw [take_snoc hwk, List.flatMap_append, show List.flatMap (fun w => ([-1, 1] : List Int).map fun s => w ++ [s]) [wv] = ([-1, 1] : List Int).map fun s => wv ++ [s] by simp]
        refine ⟨rfl, _, rfl, p, rfl, ⟨_, SD.tup hm0⟩, lcin_it (walk_tup (K := K) (a := p) (xs := iL [-1, 1])) (fun j Hj => (∀ b o, b ≠ D → Hk' b = some o → Hj b = some o) ∧ ∃ acc, Hj D = some (.lst acc) ∧ RowsAt K Hj acc ((((growW [[]] ((menusL n (arcs Ts)).take i)).take k).flatMap fun w => ([-1, 1] : List Int).map fun s => w ++ [s]) ++ (([-1, 1] : List Int).map fun s => wv ++ [s]).take j)) ?_ ?_ ?_ ?_⟩
        · exact ⟨fun b o _ q => q, acc, hd, by rw [List.take_zero, List.append_nil]; exact st⟩
        · rintro j Hj _ ⟨kp2, _⟩
          exact sqt_but kp2 hd (SD.tup hm0)
        · rintro j x Hj Hj' hj ⟨kp2, acc2, hd2, st2⟩ ⟨rfl, hxj⟩
          obtain ⟨s, hsj, rfl⟩ := iL_get hxj
          refine ⟨rfl, _, rfl, _, rfl, small_size (show 1 ≤ 1000 by decide), fun z hz => ?_⟩
          have u1 := same_upd (o := .tup [.int s]) hz
          refine rd_cat1 (u1.tup (sqt_but kp2 hd hq2)) (.inl (.inl upd_same)) (by omega) fun H3 u S3 hu => ?_
          have S4 := u1.trans S3
          have hd4 := S4 _ _ hd2
          refine ⟨acc2, hd4, mid_lt ?_, fun b o ne q => ?_, acc2 ++ [.ref u], upd_same, ?_⟩
          · rw [st2.1, List.length_append, List.length_take, List.length_map]
            have z1 : (((growW [[]] ((menusL n (arcs Ts)).take i)).take k).flatMap fun w => ([-1, 1] : List Int).map fun s => w ++ [s]).length ≤ 2048 := by
              rw [List.length_flatMap]
              have z2 : ∀ l : List (List Int), (l.map fun w => (([-1, 1] : List Int).map fun s => w ++ [s]).length).sum ≤ 2 * l.length := fun l => by
                induction l with
                | nil => exact Nat.le_refl _
                | cons a l ih =>
                  rw [List.map_cons, List.sum_cons, List.length_map, show (a :: l).length = l.length + 1 from rfl]
                  have z3 : ([-1, 1] : List Int).length ≤ 2 := by decide
                  omega
              refine Nat.le_trans (z2 _) ?_
              rw [List.length_take]
              omega
            have z3 : ([-1, 1] : List Int).length ≤ 2 := by decide
            omega
          · rw [upd_ne ne]
            exact S4 _ _ (kp2 b o ne q)
          · exact ((st2.same S4).app (by rw [List.getElem?_map, hsj]; rfl) ⟨u, rfl, hu⟩).updL hd4
        · rintro Hj ⟨kp2, acc2, hd2, st2⟩
          rw [show (([-1, 1] : List Int).map fun s => wv ++ [s]).take (iL [-1, 1]).length = ([-1, 1] : List Int).map fun s => wv ++ [s] from List.take_of_length_le (by rw [List.length_map, len_iL]; exact Nat.le_refl _)] at st2
          exact ⟨fun b o ne q => kp2 b o ne (kp b o ne q), acc2, hd2, st2⟩
      · rintro Hk ⟨kp, acc, hd, st⟩
        rw [h2'.1, List.take_length, ← growW_snoc, ← take_snoc em] at st
        exact ⟨fun b o q => kp b o (ne_of_none (SU _ _ q) hD) (SU _ _ q), D, acc, _, _, _, _, rfl, hd, st⟩
  · rintro σ H' ⟨S, g, ys, r3, r4, r5, r6, rfl, h1, h2⟩
    rw [lx, List.take_of_length_le (by rw [menusL_len]; omega), growW_ways] at h2
    have big : (waysOf (menusL n (arcs Ts))).length ≤ 1024 := by
      rw [← growW_ways]
      exact growW_le (by rw [menusL_len]; omega) mle
    refine ⟨_, rfl, g, rfl, ⟨_, .inl (.inl h1)⟩, fun D hD => lc_it (walk_list (K := K) (a := g) (xs := ys)) (fun i G => (∀ b o, b ≠ D → H' b = some o → G b = some o) ∧ ∃ acc, G D = some (.lst acc) ∧ RowsAt K G acc (((waysOf (menusL n (arcs Ts))).take i).filter fun w => @decide (KG.Back (arcsOf (arcs Ts) w)) (Classical.propDecidable _))) ?_ ?_ ?_ ?_⟩
    · refine ⟨fun b o ne q => ?_, [], upd_same, .nil⟩
      rw [upd_ne ne]
      exact q
    · rintro i G _ ⟨kp, _⟩
      exact .inl (.inl (kp _ _ (ne_of_none h1 hD) h1))
    · rintro i x G G' hi ⟨kp, acc, hd, st⟩ ⟨rfl, hxi⟩
      have SD : Same H' G' := fun b o q => kp b o (ne_of_none q hD) q
      obtain ⟨wv, hwi, q2, rfl, hq2⟩ := (h2.same SD).get hxi
      have mw := List.mem_of_getElem? hwi
      have lw := mem_waysOf_len mw
      rw [menusL_len] at lw
      refine ⟨rfl, _, rfl, _, rfl, a, q2, n, Ts, wv, rfl, (hw.same S1).same (S.trans SD), gw, hq2, by omega, fun s ms => ?_, fun H2 S5 => ⟨_, rfl, ite2 (fun c => ?_) (fun c => ?_)⟩⟩
      · obtain ⟨m, hm, hs⟩ := ways_mem mw s ms
        rcases menusL_mem hm with rfl | rfl
        · exact .inr (.inl (List.mem_singleton.mp hs))
        · rcases List.mem_cons.mp hs with z | z
          · exact .inl z
          · exact .inr (.inr (List.mem_singleton.mp z))
      · have hd' := S5 _ _ hd
        refine ⟨_, rfl, acc, hd', mid_lt ?_, fun b o ne q => ?_, acc ++ [.ref q2], upd_same, ?_⟩
        · rw [st.1]
          exact Nat.le_trans (List.length_filter_le _ _) (by rw [List.length_take]; omega)
        · rw [upd_ne ne]
          exact S5 _ _ (kp b o ne q)
        · rw [filter_snoc hwi, if_pos c]
          exact ((st.same S5).snoc ⟨q2, rfl, S5.tup hq2⟩).updL hd'
      · refine ⟨fun b o ne q => S5 _ _ (kp b o ne q), acc, S5 _ _ hd, ?_⟩
        rw [filter_snoc hwi, if_neg c, List.append_nil]
        exact st.same S5
    · rintro G ⟨kp, acc, hd, st⟩
      rw [h2.1, List.take_length] at st
      exact hq _ D acc (fun b o q => kp b o (ne_of_none (S _ _ (S1 _ _ q)) hD) (S _ _ (S1 _ _ q))) hd st
end
end K3
namespace K3
open PySem PySem.Spec PyProof.Rows L2 He HX KG
section
variable {P : Program} {w : World} {K : PySem.W.Frag} {mg : Str → Option Value} {base : Heap}
def NN_turns : List PySem.Str := ["web", "direction"]
theorem sc_turns : GScope NN_turns ["web"] (defScope (top 30)) := ⟨rfl, rfl, rfl, by decide +kernel, rfl, by decide +kernel, by decide +kernel⟩
theorem ok_turns (h : HK K mg) (c_look_joined : Cal P w K mg base 7 "look_joined" ["web"] (sp_look_joined K)) (c_turn_list : Cal P w K mg base 9 "turn_list" ["web"] (sp_turn_list K)) : CalG P w K mg base 10 "turns" ["web"] (sp_turns K) := by
  have F : FunD K "turns" "turns" (defArgs (top 30)) (defBody (top 30)) (defScope (top 30)) [] [] (ga K "turns") (fdA K (ga K "turns")) := h.says.funD 22
  have wf := h.wf
  have G : GFn P w K mg base (9 + 1) (ga K "turns") (fdA K (ga K "turns")) ["web"] (sp_turns K) := okG F sc_turns (fun vs H Q E hs => by (repeat (obtain ⟨_, hs⟩ := hs)) <;> subst_vars <;> rfl) (fun cdv A outer s H vs Q E pn hr hs => ?_)
  · exact ⟨G, h.glo _, F.kp, F.bindsN (fun _ _ _ _ _ _ us hl => match us, hl with | [_], _ => rfl)⟩
  refine ⟨_, (gss_cons (gs_ps (ps_expr (pe_cal c_look_joined hr (passes_call takes_gcx (fun _ _ _ _ h => h)) (pa_cons (pv 0) pa_nil))))
      (gss_cons (gs_for owns_gcx (by rfl) (pi_list (pe_cal c_turn_list hr passL (pa_cons (pv 0) pa_nil))) (pg_name (i := 1) sc_turns.nd rfl (by first | exact Or.inl rfl | exact Or.inr rfl))
        (gss_cons (gs_yield (pv 1)) gss_nil))
      gss_nil)), ?_⟩
  obtain ⟨a, n, Ts, rfl, hw, gw, h1, h2⟩ := hs
  have lT := gw.len
  have laT : (arcs Ts).length = Ts.length := by simp
  refine ⟨_, rfl, a, n, Ts, rfl, hw, gw, fun jn H1 S1 => ?_, fun nj => h2 nj⟩
  refine ⟨_, rfl, a, n, Ts, rfl, hw.same S1, gw, jn, fun H2 r xs S2 hr hx => ?_⟩
  have big : xs.length ≤ 1024 := by
    rw [hx.1]
    exact turnL_le (by rw [menusL_len]; omega) fun m h => by rcases menusL_mem h with rfl | rfl <;> decide
  refine ⟨r, rfl, ⟨_, .inl (.inl hr)⟩, gfor_it (walk_list (K := K) (a := r) (xs := xs)) (fun i ys σ H' => H' = H2 ∧ ys = xs.take i ∧ ∃ r1, σ = [some (.ref a), r1]) ?_ ?_ ?_ ?_⟩
  · exact ⟨rfl, rfl, _, rfl⟩
  · rintro i ys σ H' _ ⟨rfl, _⟩
    exact .inl (.inl hr)
  · rintro i x ys σ H' H3 hi ⟨rfl, rfl, r1, rfl⟩ ⟨rfl, hxi⟩
    exact ⟨mid_lt (by rw [List.length_take]; omega), _, rfl, rfl, (take_snoc hxi).symm, _, rfl⟩
  · rintro ys σ H' ⟨rfl, rfl, r1, rfl⟩
    rw [List.take_length]
    exact h1 jn _ xs (S1.trans S2) hx
end
end K3
namespace K3
open PySem PySem.Spec PyProof.Rows L2 He HX KG
section
variable {P : Program} {w : World} {K : PySem.W.Frag} {mg : Str → Option Value} {base : Heap}
def NN_ways_home : List PySem.Str := ["web", "tree", "ways", "_", "index", "first", "second"]
theorem sc_ways_home : FnScope NN_ways_home ["web", "tree"] (defScope (top 16)) := ⟨rfl, rfl, rfl, by decide +kernel, rfl, by decide +kernel, by decide +kernel⟩
theorem ok_ways_home (h : HK K mg) (c_with_number : Cal P w K mg base 1 "with_number" ["flow", "index", "number"] (sp_with_number K)) : Cal P w K mg base 2 "ways_home" ["web", "tree"] (sp_ways_home K) := by
  have F : FunD K "ways_home" "ways_home" (defArgs (top 16)) (defBody (top 16)) (defScope (top 16)) [] [] (ga K "ways_home") (fdA K (ga K "ways_home")) := h.says.funD 9
  have wf := h.wf
  have G : FnOk P w K mg base (L2.CX P w) (1 + 1) (ga K "ways_home") (fdA K (ga K "ways_home")) ["web", "tree"] (sp_ways_home K) := okX F sc_ways_home (fun vs H Q E hs => by (repeat (obtain ⟨_, hs⟩ := hs)) <;> subst_vars <;> rfl) (fun cdv A outer s H vs Q E hr hs => ?_)
  · exact ⟨G, h.glo _, F.kp, F.bindsN (fun _ _ _ _ _ _ us hl => match us, hl with | [_, _], _ => rfl)⟩
  refine ⟨_, (pss_cons (ps_setLc (i := 2) (own := [("_", 3)]) (by rfl) sc_ways_home.nd rfl rfl (sw_true rfl rfl rfl (by decide +kernel)) (pi_range1 (by rfl) (h.free "range") (pa_cons (pe_fld (pv 0) (by rfl)) pa_nil)) (blkOk_by (own := [("_", 3)]) (N := NN_ways_home) (sc := defScope (top 16)) (by decide +kernel)) (fun _ _ _ _ _ => by exact (pg_name (i := 3) sc_ways_home.nd rfl (by first | exact Or.inl rfl | exact Or.inr rfl))) (fun _ _ _ _ _ => by exact pts_nil) (fun _ _ _ _ _ => by exact pe_non))
      (pss_cons (ps_asg (pe_lc (own := [("_", 3)]) (by rfl) sc_ways_home.nd (pi_tup (pe_fld (pv 0) (by rfl))) (blkOk_by (own := [("_", 3)]) (N := NN_ways_home) (sc := defScope (top 16)) (by decide +kernel)) (fun _ _ _ _ _ => by exact (pg_name (i := 3) sc_ways_home.nd rfl (by first | exact Or.inl rfl | exact Or.inr rfl))) (fun _ _ _ _ _ => by exact pts_nil) (fun _ _ _ _ _ => by exact pe_int)) (pg_sub (pv 2) pe_int set_list))
      (pss_cons (ps_for (passes_of rfl) (by rfl) (pi_list (pv 1)) (pg_name (i := 3) sc_ways_home.nd rfl (by first | exact Or.inl rfl | exact Or.inr rfl))
        (pss_one (ps_for (passes_of rfl) (by rfl) (pi_list (pv 1)) (pg_name (i := 4) sc_ways_home.nd rfl (by first | exact Or.inl rfl | exact Or.inr rfl))
          (pss_cons (ps_asg (pe_ix ix_tup (pe_fld (pv 0) (by rfl)) (pv 4) (fun _ _ => rfl)) (pg_tup (by rfl) (pgs_cons (pg_name (i := 5) sc_ways_home.nd rfl (by first | exact Or.inl rfl | exact Or.inr rfl)) (pgs_cons (pg_name (i := 6) sc_ways_home.nd rfl (by first | exact Or.inl rfl | exact Or.inr rfl)) (pgs_cons (pg_name (i := 3) sc_ways_home.nd rfl (by first | exact Or.inl rfl | exact Or.inr rfl)) pgs_nil)))))
          (pss_one (ps_if (PW.pt (pw_and (pt_cmpR op_isN (pe_ix ix_list (pv 2) (pv 5) (fun _ _ => rfl)) pe_non (nomark _)) (pw_and1 (pt_cmpR op_notN (pe_ix ix_list (pv 2) (pv 6) (fun _ _ => rfl)) pe_non (nomark _)))))
            (pss_one (ps_asg (pe_cal c_with_number hr passL (pa_cons (pe_ix ix_list (pv 2) (pv 6) (fun _ _ => rfl)) (pa_cons (pv 4) (pa_cons pe_int pa_nil)))) (pg_sub (pv 2) (pv 5) set_list)))
            (pss_one (ps_if (PW.pt (pw_and (pt_cmpR op_isN (pe_ix ix_list (pv 2) (pv 6) (fun _ _ => rfl)) pe_non (nomark _)) (pw_and1 (pt_cmpR op_notN (pe_ix ix_list (pv 2) (pv 5) (fun _ _ => rfl)) pe_non (nomark _)))))
              (pss_one (ps_asg (pe_cal c_with_number hr passL (pa_cons (pe_ix ix_list (pv 2) (pv 5) (fun _ _ => rfl)) (pa_cons (pv 4) (pa_cons (pe_un un_neg pe_int) pa_nil)))) (pg_sub (pv 2) (pv 6) set_list)))
              pss_nil))))))))
      (pss_one (ps_ret (pv 2)))))), ?_⟩
  obtain ⟨a, tr, n, Ts, tree, rfl, hw, gw, htr, hlt, hq⟩ := hs
  obtain ⟨dx, t, xs, ha, ht, hx⟩ := id hw
  have n1 := gw.n1
  have n6 := gw.n6
  have lT := gw.len
  have hT := gw.ok.inn
  have lx := rows_len hx
  refine ⟨_, rfl, a, _, dx, _, _, rfl, ha, wf.cls, wf.no _ (by decide +kernel), rfl, n, rfl, by omega, by omega, fun D hD => lc_range (lo := 0) (n := n) (fun i H' => H' = upd H D (.lst (((List.range n).take i).map fun _ => V.non))) rfl ?_ ?_⟩
  · rintro i H' hi rfl
    exact ⟨rfl, lcs (List.getElem?_range hi) (by simp; omega) rfl⟩
  rintro H' rfl
  rw [List.take_of_length_le (by simp)]
  have S1 := same_upd (o := .lst ((List.range n).map fun _ => V.non)) hD
  generalize hH1 : upd H D (.lst ((List.range n).map fun _ => V.non)) = H1 at S1 ⊢
  have hD1 : H1 D = some (.lst ((List.range n).map fun _ => V.non)) := by
    rw [← hH1]
    exact upd_same
  refine ⟨_, rfl, a, _, dx, _, _, rfl, S1 _ _ ha, wf.cls, wf.no _ (by decide +kernel), rfl, t, rfl, ⟨_, S1.tup ht⟩, fun Z hZ => lc_tup (K := K) (a := t) (xs := xs) (fun i H' => H' = upd H1 Z (.lst ((xs.take i).map fun _ => V.int 0))) rfl ?_ ?_ ?_⟩
  · rintro i H' _ rfl
    exact (same_upd hZ).tup (S1.tup ht)
  · rintro i v H' hv rfl
    exact ⟨rfl, lcs hv (by omega) rfl⟩
  rintro H' rfl
  rw [List.take_length]
  have ZD : Z ≠ D := fun z => by
    rw [z, hD1] at hZ
    cases hZ
  have S2 := same_upd (o := .lst (xs.map fun _ => V.int 0)) hZ
  have hZ2 : (upd H1 Z (.lst (xs.map fun _ => V.int 0))) Z = some (.lst (iL (List.replicate Ts.length 0))) := by
    rw [upd_same]
    congr 2
    unfold iL
    rw [List.map_replicate, ← lx]
    exact List.eq_replicate_iff.mpr ⟨by simp, fun b m => by
      obtain ⟨_, _, rfl⟩ := List.mem_map.mp m
      rfl⟩
  generalize upd H1 Z (.lst (xs.map fun _ => V.int 0)) = H2 at S2 hZ2 ⊢
  refine ⟨_, rfl, D, _, _, 0, rfl, rfl, S2 _ _ hD1, ixN_nat (a := 0) (by simp; omega), ?_⟩
  have S3 : ∀ b o, b ≠ D → H2 b = some o → (upd H2 D (.lst (((List.range n).map fun _ => V.non).set 0 (.ref Z)))) b = some o := fun b o ne q => by
    rw [upd_ne ne]
    exact q
  have base : WaysX D (upd H2 D (.lst (((List.range n).map fun _ => V.non).set 0 (.ref Z)))) (((List.range n).map fun _ => V.non).set 0 (.ref Z)) (ws0 n Ts.length) := by
    refine WaysX.set (ws := List.replicate n none) ⟨by simp, fun i v o q1 q2 => ?_⟩ (S3 _ _ ZD hZ2) ZD
    have z1 := List.mem_of_getElem? q1
    have z2 := List.mem_of_getElem? q2
    obtain ⟨_, _, rfl⟩ := List.mem_map.mp z1
    rw [(List.mem_replicate.mp z2).2]
    exact ⟨fun _ => rfl, fun w z => nomatch z⟩
  have SS : ∀ b o, H b = some o → (upd H2 D (.lst (((List.range n).map fun _ => V.non).set 0 (.ref Z)))) b = some o := fun b o q => S3 b o (ne_of_none q hD) (S2 _ _ (S1 _ _ q))
  have hD3 : (upd H2 D (.lst (((List.range n).map fun _ => V.non).set 0 (.ref Z)))) D = some (.lst (((List.range n).map fun _ => V.non).set 0 (.ref Z))) := upd_same
  generalize upd H2 D (.lst (((List.range n).map fun _ => V.non).set 0 (.ref Z))) = H3 at base SS hD3 ⊢
  have ltr : (nL tree).length = tree.length := len_nL tree
  refine ⟨_, rfl, tr, rfl, ⟨_, Same.seq SS htr⟩, for_list (K := K) (a := tr) (xs := nL tree) (fun k σ H' => Same H H' ∧ ∃ (ys : List V) (r3 r4 r5 r6 : Option V), σ = [some (.ref a), some (.ref tr), some (.ref D), r3, r4, r5, r6] ∧ H' D = some (.lst ys) ∧ WaysX D H' ys (wPasses (arcs Ts) tree k (ws0 n Ts.length)) ∧ WL n Ts.length (wPasses (arcs Ts) tree k (ws0 n Ts.length))) ?_ ?_ ?_ ?_⟩
  · exact ⟨SS, _, _, _, _, _, rfl, hD3, base, WL.start⟩
  · rintro k σ H' _ ⟨S, _⟩
    exact S.seq htr
  · rintro k x σ H' hk ⟨S, ys, r3, r4, r5, r6, rfl, h1, h2, h3⟩
    rw [wPasses_succ]
    generalize wPasses (arcs Ts) tree k (ws0 n Ts.length) = W at h2 h3 ⊢
    refine ⟨_, rfl, tr, rfl, ⟨_, S.seq htr⟩, for_list (K := K) (a := tr) (xs := nL tree) (fun j σ H' => Same H H' ∧ ∃ (ys : List V) (r3 r4 r5 r6 : Option V), σ = [some (.ref a), some (.ref tr), some (.ref D), r3, r4, r5, r6] ∧ H' D = some (.lst ys) ∧ WaysX D H' ys (wPass (arcs Ts) (tree.take j) W) ∧ WL n Ts.length (wPass (arcs Ts) (tree.take j) W)) ?_ ?_ ?_ ?_⟩
    · exact ⟨S, ys, _, _, _, _, rfl, h1, h2, h3⟩
    · rintro j σ H' _ ⟨S, _⟩
      exact S.seq htr
    · rintro j v σ H' hj ⟨S, ys, r3, r4, r5, r6, rfl, h1, h2, h3⟩
      obtain ⟨i, hi, rfl⟩ := nL_get hj
      rw [wPass_take hi]
      generalize wPass (arcs Ts) (tree.take j) W = W1 at h2 h3 ⊢
      have il := hlt i (List.mem_of_getElem? hi)
      have exi : xs[i]? = some (xs[i]'(by omega)) := List.getElem?_eq_getElem (by omega)
      obtain ⟨tt, q, ht', e0, hq'⟩ := tie_get (hx.same S) exi
      rw [e0] at exi
      have ab := in_at hT ht'
      have e := arcs_at ht'
      obtain ⟨o1, ho1⟩ : ∃ o, W1[tt.1]? = some o := ⟨_, List.getElem?_eq_getElem (by rw [h3.1]; exact ab.1)⟩
      obtain ⟨o2, ho2⟩ : ∃ o, W1[tt.2.1]? = some o := ⟨_, List.getElem?_eq_getElem (by rw [h3.1]; exact ab.2)⟩
      rw [wStep_of e, ho1, ho2]
      obtain ⟨v1, y1, n1', s1⟩ := h2.get ho1
      obtain ⟨v2, y2, n2', s2⟩ := h2.get ho2
      have ly : ys.length = n := by rw [h2.1, h3.1]
      refine ⟨_, rfl, a, _, dx, _, _, rfl, S _ _ ha, wf.cls, wf.no _ (by decide +kernel), rfl, _, rfl, t, _, _, _, rfl, rfl, S.tup ht, atI_nat exi, q, _, rfl, hq', rfl, _, _, rfl, _, _, rfl, _, _, rfl, rfl, ?_⟩
      cases o1 with
      | none =>
        obtain rfl := n1' rfl
        cases o2 with
        | none =>
          obtain rfl := n2' rfl
          refine ⟨_, rfl, _, rfl, D, _, _, _, rfl, rfl, .inl (.inl h1), atI_nat y1, rfl, _, rfl, isn_t ⟨_, rfl, _, rfl, D, _, _, _, rfl, rfl, .inl (.inl h1), atI_nat y2, rfl, _, rfl, nn_f ?_⟩⟩
          exact ⟨_, rfl, _, rfl, D, _, _, _, rfl, rfl, .inl (.inl h1), atI_nat y2, rfl, _, rfl, isn_t ⟨_, rfl, _, rfl, D, _, _, _, rfl, rfl, .inl (.inl h1), atI_nat y1, rfl, _, rfl, nn_f ⟨S, ys, _, _, _, _, rfl, h1, h2, h3⟩⟩⟩
        | some w2 =>
          obtain ⟨l2, rfl, hl2, nl2⟩ := s2 w2 rfl
          have wl := h3.2 _ _ ho2
          refine ⟨_, rfl, _, rfl, D, _, _, _, rfl, rfl, .inl (.inl h1), atI_nat y1, rfl, _, rfl, isn_t ⟨_, rfl, _, rfl, D, _, _, _, rfl, rfl, .inl (.inl h1), atI_nat y2, rfl, _, rfl, nn_t ?_⟩⟩
          refine ⟨_, rfl, _, rfl, D, _, _, _, rfl, rfl, .inl (.inl h1), atI_nat y2, _, rfl, l2, w2, i, 1, rfl, .inl (.inl hl2), by omega, by omega, fun G r S4 nr hr => ?_⟩
          have rD : r ≠ D := fun z => by
            rw [z, h1] at nr
            cases nr
          refine ⟨_, rfl, _, rfl, D, _, _, tt.1, rfl, rfl, S4 _ _ h1, ixN_nat (by omega), ?_⟩
          have up : ∀ b o, b ≠ D → G b = some o → (upd G D (.lst (ys.set tt.1 (.ref r)))) b = some o := fun b o ne q => by
            rw [upd_ne ne]
            exact q
          exact ⟨fun b o q => up b o (ne_of_none q hD) (S4 _ _ (S _ _ q)), _, _, _, _, _, rfl, upd_same, ((h2.keep fun b o ne q => S4 _ _ q).keep up).set (up _ _ rD hr) rD, h3.set (by rw [List.length_set]; exact wl)⟩
      | some w1 =>
        obtain ⟨l1, rfl, hl1, nl1⟩ := s1 w1 rfl
        have wl := h3.2 _ _ ho1
        cases o2 with
        | none =>
          obtain rfl := n2' rfl
          refine ⟨_, rfl, _, rfl, D, _, _, _, rfl, rfl, .inl (.inl h1), atI_nat y1, rfl, _, rfl, isn_f (iteF ?_)⟩
          refine ⟨_, rfl, _, rfl, D, _, _, _, rfl, rfl, .inl (.inl h1), atI_nat y2, rfl, _, rfl, isn_t ⟨_, rfl, _, rfl, D, _, _, _, rfl, rfl, .inl (.inl h1), atI_nat y1, rfl, _, rfl, nn_t ?_⟩⟩
          refine ⟨_, rfl, _, rfl, D, _, _, _, rfl, rfl, .inl (.inl h1), atI_nat y1, _, rfl, _, rfl, l1, w1, i, -1, rfl, .inl (.inl hl1), by omega, by omega, fun G r S4 nr hr => ?_⟩
          have rD : r ≠ D := fun z => by
            rw [z, h1] at nr
            cases nr
          refine ⟨_, rfl, _, rfl, D, _, _, tt.2.1, rfl, rfl, S4 _ _ h1, ixN_nat (by omega), ?_⟩
          have up : ∀ b o, b ≠ D → G b = some o → (upd G D (.lst (ys.set tt.2.1 (.ref r)))) b = some o := fun b o ne q => by
            rw [upd_ne ne]
            exact q
          exact ⟨fun b o q => up b o (ne_of_none q hD) (S4 _ _ (S _ _ q)), _, _, _, _, _, rfl, upd_same, ((h2.keep fun b o ne q => S4 _ _ q).keep up).set (up _ _ rD hr) rD, h3.set (by rw [List.length_set]; exact wl)⟩
        | some w2 =>
          obtain ⟨l2, rfl, hl2, nl2⟩ := s2 w2 rfl
          refine ⟨_, rfl, _, rfl, D, _, _, _, rfl, rfl, .inl (.inl h1), atI_nat y1, rfl, _, rfl, isn_f (iteF ?_)⟩
          exact ⟨_, rfl, _, rfl, D, _, _, _, rfl, rfl, .inl (.inl h1), atI_nat y2, rfl, _, rfl, isn_f (iteF ⟨S, ys, _, _, _, _, rfl, h1, h2, h3⟩)⟩
    · rintro σ H' ⟨S, ys, r3, r4, r5, r6, rfl, h1, h2, h3⟩
      rw [ltr, List.take_length] at h2 h3
      exact ⟨S, ys, _, _, _, _, rfl, h1, h2, h3⟩
  · rintro σ H' ⟨S, ys, r3, r4, r5, r6, rfl, h1, h2, h3⟩
    rw [ltr] at h2
    exact ⟨_, rfl, hq _ D ys S h1 h2.ways⟩
end
end K3
namespace K3
open PySem PySem.Spec PyProof.Rows L2 He HX KG
section
variable {P : Program} {w : World} {K : PySem.W.Frag} {mg : Str → Option Value} {base : Heap}
def NN_with_arc : List PySem.Str := ["masks", "start", "end", "mask"]
theorem sc_with_arc : FnScope NN_with_arc ["masks", "start", "end"] (defScope (top 22)) := ⟨rfl, rfl, rfl, by decide +kernel, rfl, by decide +kernel, by decide +kernel⟩
theorem ok_with_arc (h : HK K mg) : Cal P w K mg base 1 "with_arc" ["masks", "start", "end"] (sp_with_arc K) := by
  have F : FunD K "with_arc" "with_arc" (defArgs (top 22)) (defBody (top 22)) (defScope (top 22)) [] [] (ga K "with_arc") (fdA K (ga K "with_arc")) := h.says.funD 14
  have wf := h.wf
  have G : FnOk P w K mg base (L2.CX P w) (0 + 1) (ga K "with_arc") (fdA K (ga K "with_arc")) ["masks", "start", "end"] (sp_with_arc K) := okX F sc_with_arc (fun vs H Q E hs => by (repeat (obtain ⟨_, hs⟩ := hs)) <;> subst_vars <;> rfl) (fun cdv A outer s H vs Q E hr hs => ?_)
  · exact ⟨G, h.glo _, F.kp, F.bindsN (fun _ _ _ _ _ _ us hl => match us, hl with | [_, _, _], _ => rfl)⟩
  refine ⟨_, (pss_one (ps_ret (pe_lc (own := [("mask", 3)]) (by rfl) sc_with_arc.nd (pi_list (pv 0)) (blkOk_by (own := [("mask", 3)]) (N := NN_with_arc) (sc := defScope (top 22)) (by decide +kernel)) (fun _ _ _ _ _ => by exact (pg_name (i := 3) sc_with_arc.nd rfl (by first | exact Or.inl rfl | exact Or.inr rfl))) (fun _ _ _ _ _ => by exact pts_nil) (fun _ _ _ _ _ => by exact (pe_ifExp (pt_truthK K rfl (pe_op op_and (pe_op op_shrN (pv 3) (pv 1)) pe_int) (by intro _; rfl)) (pe_op op_or (pv 3) (pe_ix (ix_listK K rfl) (pv 0) (pv 2) (fun _ _ => rfl))) (pv 3)))))), ?_⟩
  obtain ⟨l, ms, a, b, rfl, hl, hb, hn, hq⟩ := hs
  have eb : ms[b]? = some (ms.getD b 0) := by rw [List.getD_eq_getElem?_getD, List.getElem?_eq_getElem hb]; rfl
  refine ⟨_, rfl, l, rfl, ⟨_, hl⟩, fun D hD => lc_list (K := K) (a := l) (xs := nL ms) (fun i H' => H' = upd H D (.lst ((ms.take i).map fun m => nI (if m.testBit a then m ||| ms.getD b 0 else m)))) rfl ?_ ?_ ?_⟩
  · rintro i H' _ rfl
    exact (same_upd hD).seq hl
  · rintro i v H' hv rfl
    obtain ⟨m, hm, rfl⟩ := nL_get hv
    refine ⟨rfl, _, rfl, _, rfl, _, _, rfl, rfl, _, _, rfl, rfl, _, rfl, ?_⟩
    rw [bit_test]
    refine ite2 (fun c => ?_) (fun c => ?_)
    · refine ⟨_, rfl, _, rfl, _, rfl, l, _, _, _, rfl, rfl, (same_upd hD).seq hl, nL_atI eb, _, _, rfl, rfl, lcs hm (by omega) ?_⟩
      rw [if_pos c]
      exact congrArg V.int (bit_or m (ms.getD b 0))
    · exact ⟨_, rfl, lcs hm (by omega) (by rw [if_neg c])⟩
  · rintro H' rfl
    rw [List.length_map, List.take_length]
    refine hq _ D (same_upd hD) hD ?_
    rw [upd_same]
    unfold withArc nL
    rw [List.map_map]
    rfl
end
end K3
namespace K3
open PySem PySem.Spec PyProof.Rows L2 He HX KG
section
variable {P : Program} {w : World} {K : PySem.W.Frag} {mg : Str → Option Value} {base : Heap}
def NN_with_number : List PySem.Str := ["flow", "index", "number"]
theorem sc_with_number : FnScope NN_with_number ["flow", "index", "number"] (defScope (top 15)) := ⟨rfl, rfl, rfl, by decide +kernel, rfl, by decide +kernel, by decide +kernel⟩
theorem ok_with_number (h : HK K mg) : Cal P w K mg base 1 "with_number" ["flow", "index", "number"] (sp_with_number K) := by
  have F : FunD K "with_number" "with_number" (defArgs (top 15)) (defBody (top 15)) (defScope (top 15)) [] [] (ga K "with_number") (fdA K (ga K "with_number")) := h.says.funD 8
  have wf := h.wf
  have G : FnOk P w K mg base (L2.CX P w) (0 + 1) (ga K "with_number") (fdA K (ga K "with_number")) ["flow", "index", "number"] (sp_with_number K) := okX F sc_with_number (fun vs H Q E hs => by (repeat (obtain ⟨_, hs⟩ := hs)) <;> subst_vars <;> rfl) (fun cdv A outer s H vs Q E hr hs => ?_)
  · exact ⟨G, h.glo _, F.kp, F.bindsN (fun _ _ _ _ _ _ us hl => match us, hl with | [_, _, _], _ => rfl)⟩
  refine ⟨_, (pss_one (ps_ret (pe_op op_cat (pe_op op_cat (pe_slice sl_list (pv 0) po_none (po_some (pv 1))) (pe_lst (pa_cons (pv 2) pa_nil))) (pe_slice sl_list (pv 0) (po_some (pe_op op_add (pv 1) pe_int)) po_none)))), ?_⟩
  obtain ⟨l, ws, i, s, rfl, hl, hi, hn, hq⟩ := hs
  refine ⟨_, rfl, _, rfl, _, rfl, l, _, rfl, hl, fun p hp => ?_⟩
  rw [cut_to]
  have S1 := same_upd (o := .lst ((iL ws).take i)) hp
  refine ⟨_, rfl, small_size (show 1 ≤ 1000 by decide), fun q hq' => ?_⟩
  have S2 := S1.trans (same_upd (o := .lst [.int s]) hq')
  refine ⟨p, q, _, _, rfl, rfl, same_upd hq' _ _ upd_same, upd_same, small_size (by simp; omega), fun r hr => ?_⟩
  have S3 := S2.trans (same_upd (o := .lst ((iL ws).take i ++ [.int s])) hr)
  refine ⟨_, rfl, _, rfl, _, _, rfl, rfl, _, rfl, l, _, rfl, S3.seq hl, fun u hu => ?_⟩
  rw [show ((i : Int) + 1) = ((i + 1 : Nat) : Int) from rfl, cut_from]
  have S4 := S3.trans (same_upd (o := .lst ((iL ws).drop (i + 1))) hu)
  refine ⟨r, u, _, _, rfl, rfl, same_upd hu _ _ upd_same, upd_same, small_size (by simp; omega), fun x hx => hq _ x (S4.trans (same_upd hx)) (S4.free hx) ?_⟩
  rw [upd_same]
  congr 2
  rw [List.set_eq_take_append_cons_drop, if_pos hi]
  unfold iL
  rw [List.map_append, List.map_cons, List.map_take, List.map_drop]
  simp
end
end K3
namespace K3
open PySem PySem.Spec PyProof.Rows L2 He HX KG
section
variable {P : Program} {w : World} {K : PySem.W.Frag} {mg : Str → Option Value} {base : Heap}
def NN_with_tie : List PySem.Str := ["direction", "masks", "first", "second", "told"]
theorem sc_with_tie : FnScope NN_with_tie ["direction", "masks", "first", "second"] (defScope (top 23)) := ⟨rfl, rfl, rfl, by decide +kernel, rfl, by decide +kernel, by decide +kernel⟩
theorem ok_with_tie (h : HK K mg) (c_with_arc : Cal P w K mg base 1 "with_arc" ["masks", "start", "end"] (sp_with_arc K)) : Cal P w K mg base 2 "with_tie" ["direction", "masks", "first", "second"] (sp_with_tie K) := by
  have F : FunD K "with_tie" "with_tie" (defArgs (top 23)) (defBody (top 23)) (defScope (top 23)) [] [] (ga K "with_tie") (fdA K (ga K "with_tie")) := h.says.funD 15
  have wf := h.wf
  have G : FnOk P w K mg base (L2.CX P w) (1 + 1) (ga K "with_tie") (fdA K (ga K "with_tie")) ["direction", "masks", "first", "second"] (sp_with_tie K) := okX F sc_with_tie (fun vs H Q E hs => by (repeat (obtain ⟨_, hs⟩ := hs)) <;> subst_vars <;> rfl) (fun cdv A outer s H vs Q E hr hs => ?_)
  · exact ⟨G, h.glo _, F.kp, F.bindsN (fun _ _ _ _ _ _ us hl => match us, hl with | [_, _, _, _], _ => rfl)⟩
  refine ⟨_, (pss_cons (ps_set (i := 4) sc_with_tie.nd rfl (by first | exact Or.inl rfl | exact Or.inr rfl) (pe_lst pa_nil))
      (pss_cons (ps_if (pt_not (pt_truth (pe_op op_and (pe_op op_shrN (pe_ix ix_list (pv 1) (pv 2) (fun _ _ => rfl)) (pv 3)) pe_int) (by intro _; rfl)))
        (pss_one (ps_expr (pe_bm PySem.F.plainAttrs_list PySem.F.slot_list_append PySem.F.type_list_append mt_append (pv 4) (pa_cons (pe_tup (pa_cons (pe_op op_catA (pv 0) (pe_tup (pa_cons (pe_un un_neg pe_int) pa_nil))) (pa_cons (pe_cal c_with_arc hr passL (pa_cons (pv 1) (pa_cons (pv 3) (pa_cons (pv 2) pa_nil)))) pa_nil))) pa_nil))))
        pss_nil)
      (pss_cons (ps_if (pt_not (pt_truth (pe_op op_and (pe_op op_shrN (pe_ix ix_list (pv 1) (pv 3) (fun _ _ => rfl)) (pv 2)) pe_int) (by intro _; rfl)))
        (pss_one (ps_expr (pe_bm PySem.F.plainAttrs_list PySem.F.slot_list_append PySem.F.type_list_append mt_append (pv 4) (pa_cons (pe_tup (pa_cons (pe_op op_catA (pv 0) (pe_tup (pa_cons pe_int pa_nil))) (pa_cons (pe_cal c_with_arc hr passL (pa_cons (pv 1) (pa_cons (pv 2) (pa_cons (pv 3) pa_nil)))) pa_nil))) pa_nil))))
        pss_nil)
      (pss_one (ps_ret (pv 4)))))), ?_⟩
  obtain ⟨d, l, w, ms, a, b, rfl, hd, hl, la, lb, hm, hw, hq⟩ := hs
  have ea : ms[a]? = some (ms.getD a 0) := by rw [List.getD_eq_getElem?_getD, List.getElem?_eq_getElem la]; rfl
  have eb : ms[b]? = some (ms.getD b 0) := by rw [List.getD_eq_getElem?_getD, List.getElem?_eq_getElem lb]; rfl
  refine ⟨size0, fun told ht => ?_⟩
  have S0 := same_upd (o := .lst []) ht
  have h0 : (upd H told (.lst [])) told = some (.lst []) := upd_same
  have z0 : StepsX K (fun l => l ≠ told ∧ H l = none) (upd H told (.lst [])) [] [] := .nil
  generalize upd H told (.lst []) = H0 at S0 h0 z0 ⊢
  refine ⟨_, rfl, _, rfl, l, _, _, _, rfl, rfl, S0.seq hl, nL_atI ea, _, rfl, _, b, rfl, rfl, _, _, rfl, rfl, _, rfl, ?_⟩
  rw [bit_test]
  refine ite2 (fun c1 => ?_) (fun c1 => ?_)
  · have d1 : (ms.getD a 0).testBit b = false := by simpa using c1
    refine ⟨_, rfl, .inl ⟨rfl, _, SqL.of h0⟩, _, rfl, _, rfl, small_size (show 1 ≤ 1000 by decide), fun p1 hp1 => ?_⟩
    have U1 := same_upd (o := .tup [.int (-1)]) hp1
    refine rd_cat1 ((S0.trans U1).tup hd) (.inl (.inl upd_same)) hw fun Ha1 u1 Sa1 hu1 => ?_
    have V1 := (S0.trans U1).trans Sa1
    refine ⟨_, rfl, _, rfl, _, rfl, l, ms, b, a, rfl, V1.seq hl, la, hm, fun Hb1 r1 Sb1 nr1 hr1 => ?_⟩
    refine ⟨small_size (show 2 ≤ 1000 by decide), fun q1 hq1 => ?_⟩
    have X1 := same_upd (o := .tup [.ref u1, .ref r1]) hq1
    have Sc1 := ((U1.trans Sa1).trans Sb1).trans X1
    have rn1 : r1 ≠ told := fun z => by
      rw [z, (U1.trans Sa1) _ _ h0] at nr1
      cases nr1
    have g1 := Sc1 _ _ h0
    refine ⟨told, _, _, rfl, rfl, g1, small_lt (by simp), ?_⟩
    have st1 := (z0.same Sc1).snoc (v := .ref q1) (d := (w ++ [(-1)], withArc ms b a)) ⟨q1, u1, r1, rfl, .inl (.inl upd_same), (Sb1.trans X1).tup hu1, X1 _ _ hr1, rn1, (S0.trans (U1.trans Sa1)).free nr1⟩
    have M1 := S0.trans Sc1
    generalize upd Hb1 q1 (.tup [.ref u1, .ref r1]) = Hc1 at g1 st1 M1 ⊢
    have T1 : Same H (upd Hc1 told (.lst ([] ++ [V.ref q1]))) := fun b o q => by
      rw [upd_ne (ne_of_none q ht)]
      exact M1 b o q
    have e1 := upd_same (H := Hc1) (a := told) (o := .lst ([] ++ [V.ref q1]))
    have f1 := st1.keep (D := told) (fun _ z => z.1) (H' := upd Hc1 told (.lst ([] ++ [V.ref q1]))) (fun b o ne q => by rw [upd_ne ne]; exact q) g1
    refine ⟨_, rfl, _, rfl, l, _, _, _, rfl, rfl, T1.seq hl, nL_atI eb, _, rfl, _, a, rfl, rfl, _, _, rfl, rfl, _, rfl, ?_⟩
    rw [bit_test]
    refine ite2 (fun c2 => ?_) (fun c2 => ?_)
    · have d2 : (ms.getD b 0).testBit a = false := by simpa using c2
      refine ⟨_, rfl, .inl ⟨rfl, _, SqL.of e1⟩, _, rfl, small_size (show 1 ≤ 1000 by decide), fun p2 hp2 => ?_⟩
      have U2 := same_upd (o := .tup [.int (1)]) hp2
      refine rd_cat1 ((T1.trans U2).tup hd) (.inl (.inl upd_same)) hw fun Ha2 u2 Sa2 hu2 => ?_
      have V2 := (T1.trans U2).trans Sa2
      refine ⟨_, rfl, _, rfl, _, rfl, l, ms, a, b, rfl, V2.seq hl, lb, hm, fun Hb2 r2 Sb2 nr2 hr2 => ?_⟩
      refine ⟨small_size (show 2 ≤ 1000 by decide), fun q2 hq2 => ?_⟩
      have X2 := same_upd (o := .tup [.ref u2, .ref r2]) hq2
      have Sc2 := ((U2.trans Sa2).trans Sb2).trans X2
      have rn2 : r2 ≠ told := fun z => by
        rw [z, (U2.trans Sa2) _ _ e1] at nr2
        cases nr2
      have g2 := Sc2 _ _ e1
      refine ⟨told, _, _, rfl, rfl, g2, small_lt (by simp), ?_⟩
      have st2 := (f1.same Sc2).snoc (v := .ref q2) (d := (w ++ [(1)], withArc ms a b)) ⟨q2, u2, r2, rfl, .inl (.inl upd_same), (Sb2.trans X2).tup hu2, X2 _ _ hr2, rn2, (T1.trans (U2.trans Sa2)).free nr2⟩
      have M2 := T1.trans Sc2
      generalize upd Hb2 q2 (.tup [.ref u2, .ref r2]) = Hc2 at g2 st2 M2 ⊢
      have T2 : Same H (upd Hc2 told (.lst (([] ++ [V.ref q1]) ++ [V.ref q2]))) := fun b o q => by
        rw [upd_ne (ne_of_none q ht)]
        exact M2 b o q
      have e2 := upd_same (H := Hc2) (a := told) (o := .lst (([] ++ [V.ref q1]) ++ [V.ref q2]))
      have f2 := st2.keep (D := told) (fun _ z => z.1) (H' := upd Hc2 told (.lst (([] ++ [V.ref q1]) ++ [V.ref q2]))) (fun b o ne q => by rw [upd_ne ne]; exact q) g2
      refine ⟨_, rfl, hq _ told _ T2 ht e2 ?_⟩
      have z := f2.imp (P' := fun l => H l = none) fun _ z => z.2
      unfold stepsOf
      rw [d1, if_neg Bool.false_ne_true, d2, if_neg Bool.false_ne_true]
      exact z
    · have d2 : (ms.getD b 0).testBit a = true := by simpa using c2
      refine ⟨_, rfl, hq _ told _ T1 ht e1 ?_⟩
      have z := f1.imp (P' := fun l => H l = none) fun _ z => z.2
      unfold stepsOf
      rw [d1, if_neg Bool.false_ne_true, d2, if_pos rfl, List.append_nil]
      exact z
  · have d1 : (ms.getD a 0).testBit b = true := by simpa using c1
    refine ⟨_, rfl, _, rfl, l, _, _, _, rfl, rfl, S0.seq hl, nL_atI eb, _, rfl, _, a, rfl, rfl, _, _, rfl, rfl, _, rfl, ?_⟩
    rw [bit_test]
    refine ite2 (fun c2 => ?_) (fun c2 => ?_)
    · have d2 : (ms.getD b 0).testBit a = false := by simpa using c2
      refine ⟨_, rfl, .inl ⟨rfl, _, SqL.of h0⟩, _, rfl, small_size (show 1 ≤ 1000 by decide), fun p3 hp3 => ?_⟩
      have U3 := same_upd (o := .tup [.int (1)]) hp3
      refine rd_cat1 ((S0.trans U3).tup hd) (.inl (.inl upd_same)) hw fun Ha3 u3 Sa3 hu3 => ?_
      have V3 := (S0.trans U3).trans Sa3
      refine ⟨_, rfl, _, rfl, _, rfl, l, ms, a, b, rfl, V3.seq hl, lb, hm, fun Hb3 r3 Sb3 nr3 hr3 => ?_⟩
      refine ⟨small_size (show 2 ≤ 1000 by decide), fun q3 hq3 => ?_⟩
      have X3 := same_upd (o := .tup [.ref u3, .ref r3]) hq3
      have Sc3 := ((U3.trans Sa3).trans Sb3).trans X3
      have rn3 : r3 ≠ told := fun z => by
        rw [z, (U3.trans Sa3) _ _ h0] at nr3
        cases nr3
      have g3 := Sc3 _ _ h0
      refine ⟨told, _, _, rfl, rfl, g3, small_lt (by simp), ?_⟩
      have st3 := (z0.same Sc3).snoc (v := .ref q3) (d := (w ++ [(1)], withArc ms a b)) ⟨q3, u3, r3, rfl, .inl (.inl upd_same), (Sb3.trans X3).tup hu3, X3 _ _ hr3, rn3, (S0.trans (U3.trans Sa3)).free nr3⟩
      have M3 := S0.trans Sc3
      generalize upd Hb3 q3 (.tup [.ref u3, .ref r3]) = Hc3 at g3 st3 M3 ⊢
      have T3 : Same H (upd Hc3 told (.lst ([] ++ [V.ref q3]))) := fun b o q => by
        rw [upd_ne (ne_of_none q ht)]
        exact M3 b o q
      have e3 := upd_same (H := Hc3) (a := told) (o := .lst ([] ++ [V.ref q3]))
      have f3 := st3.keep (D := told) (fun _ z => z.1) (H' := upd Hc3 told (.lst ([] ++ [V.ref q3]))) (fun b o ne q => by rw [upd_ne ne]; exact q) g3
      refine ⟨_, rfl, hq _ told _ T3 ht e3 ?_⟩
      have z := f3.imp (P' := fun l => H l = none) fun _ z => z.2
      unfold stepsOf
      rw [d1, if_pos rfl, d2, if_neg Bool.false_ne_true]
      exact z
    · have d2 : (ms.getD b 0).testBit a = true := by simpa using c2
      refine ⟨_, rfl, hq _ told _ S0 ht h0 ?_⟩
      have z := z0.imp (P' := fun l => H l = none) fun _ z => z.2
      unfold stepsOf
      rw [d1, if_pos rfl, d2, if_pos rfl, List.append_nil]
      exact z
end
end K3
namespace K3
open PySem PySem.Spec PyProof.Rows L2 He HX KG
section
variable {P : Program} {w : World} {K : PySem.W.Frag} {mg : Str → Option Value} {base : Heap}
def NN_law : List PySem.Str := ["script", "pool", "most", "drawn", "places", "ties", "given", "web", "due", "place", "left", "tie"]
theorem sc_law : FnScope NN_law ["script"] (defScope (top 52)) := ⟨rfl, rfl, rfl, by decide +kernel, rfl, by decide +kernel, by decide +kernel⟩
theorem ok_law (h : HK K mg) (c_Webd_initd : CalI P w K mg base 3 ["self", "places", "ties"] (sp_Webd_initd K)) (c__law_draw : Cal P w K mg base 1 "_law_draw" ["pool", "many"] (sp__law_draw K)) (c__law_lesser_told : Cal P w K mg base 9 "_law_lesser_told" ["pool", "places", "ties", "count"] (sp__law_lesser_told K)) (c__law_loose_told : Cal P w K mg base 15 "_law_loose_told" ["places", "ties"] (sp__law_loose_told K)) (c__law_lots_are : Cal P w K mg base 3 "_law_lots_are" ["told", "due"] (sp__law_lots_are K)) (c__law_marks : Cal P w K mg base 1 "_law_marks" ["places", "ties"] (sp__law_marks K)) (c__law_order_list : Cal P w K mg base 2 "_law_order_list" ["places", "ties"] (sp__law_order_list K)) (c__law_orders_told : Cal P w K mg base 8 "_law_orders_told" ["web", "due"] (sp__law_orders_told K)) (c__law_pool : Cal P w K mg base 1 "_law_pool" ["script"] (sp__law_pool K)) (c__law_turn_list : Cal P w K mg base 2 "_law_turn_list" ["places", "ties"] (sp__law_turn_list K)) (c__law_turns_told : Cal P w K mg base 14 "_law_turns_told" ["web", "due"] (sp__law_turns_told K)) (c__law_web : Cal P w K mg base 2 "_law_web" ["pool", "most"] (sp__law_web K)) (c_orders : CalG P w K mg base 4 "orders" ["web"] (sp_orders K)) : Cal P w K mg base 16 "law" ["script"] (sp_law K) := by
  have F : FunD K "law" "law" (defArgs (top 52)) (defBody (top 52)) (defScope (top 52)) [] [] (ga K "law") (fdA K (ga K "law")) := h.says.funD 43
  have wf := h.wf
  have G : FnOk P w K mg base (L2.CX P w) (15 + 1) (ga K "law") (fdA K (ga K "law")) ["script"] (sp_law K) := okX F sc_law (fun vs H Q E hs => by (repeat (obtain ⟨_, hs⟩ := hs)) <;> subst_vars <;> rfl) (fun cdv A outer s H vs Q E hr hs => ?_)
  · exact ⟨G, h.glo _, F.kp, F.bindsN (fun _ _ _ _ _ _ us hl => match us, hl with | [_], _ => rfl)⟩
  refine ⟨_, (pss_cons (ps_set (i := 1) sc_law.nd rfl (by first | exact Or.inl rfl | exact Or.inr rfl) (pe_cal c__law_pool hr passL (pa_cons (pv 0) pa_nil)))
      (pss_cons (ps_set (i := 2) sc_law.nd rfl (by first | exact Or.inl rfl | exact Or.inr rfl) (pe_ix ix_list (pe_lst (pa_cons pe_int (pa_cons pe_int (pa_cons pe_int (pa_cons pe_int (pa_cons pe_int (pa_cons pe_int (pa_cons pe_int (pa_cons pe_int (pa_cons pe_int (pa_cons pe_int (pa_cons pe_int (pa_cons pe_int (pa_cons pe_int (pa_cons pe_int (pa_cons pe_int (pa_cons pe_int pa_nil))))))))))))))))) (pe_cal c__law_draw hr passL (pa_cons (pv 1) (pa_cons pe_int pa_nil))) (fun _ _ => rfl)))
      (pss_cons (ps_set (i := 3) sc_law.nd rfl (by first | exact Or.inl rfl | exact Or.inr rfl) (pe_cal c__law_web hr passL (pa_cons (pv 1) (pa_cons (pv 2) pa_nil))))
      (pss_cons (ps_set (i := 4) sc_law.nd rfl (by first | exact Or.inl rfl | exact Or.inr rfl) (pe_ix ix_list (pv 3) pe_int (fun _ _ => rfl)))
      (pss_cons (ps_set (i := 5) sc_law.nd rfl (by first | exact Or.inl rfl | exact Or.inr rfl) (pe_slice sl_list (pe_ix ix_list (pv 3) pe_int (fun _ _ => rfl)) po_none (po_some (pv 2))))
      (pss_cons (ps_set (i := 6) sc_law.nd rfl (by first | exact Or.inl rfl | exact Or.inr rfl) (pe_callTy call_list_of (by rfl) (h.free "list") (by decide +kernel) (pa_cons (pv 5) pa_nil)))
      (pss_cons (ps_set (i := 7) sc_law.nd rfl (by first | exact Or.inl rfl | exact Or.inr rfl) (pe_make wf.mkr c_Webd_initd.ok (hr.mono (by decide)) (by rfl) (h.glo "Web") c_Webd_initd.b .nil passL (pa_cons (pv 4) (pa_cons (pv 6) pa_nil))))
      (pss_cons (ps_expr (pe_bm PySem.F.plainAttrs_list PySem.F.slot_list_append PySem.F.type_list_append mt_append (pv 6) (pa_cons (pe_tup (pa_cons pe_int (pa_cons pe_int (pa_cons pe_int pa_nil)))) pa_nil)))
      (pss_cons (ps_set (i := 8) sc_law.nd rfl (by first | exact Or.inl rfl | exact Or.inr rfl) (pe_cal c__law_order_list hr passL (pa_cons (pv 4) (pa_cons (pv 5) pa_nil))))
      (pss_cons (ps_if (pt_not (pt_val (pe_cal c__law_orders_told hr passL (pa_cons (pv 7) (pa_cons (pv 8) pa_nil)))))
        (pss_one (ps_ret pe_bl))
        pss_nil)
      (pss_cons (ps_if (pt_not (pt_val (pe_cal c__law_orders_told hr passL (pa_cons (pe_make wf.mkr c_Webd_initd.ok (hr.mono (by decide)) (by rfl) (h.glo "Web") c_Webd_initd.b .nil passL (pa_cons (pv 4) (pa_cons (pe_lst pa_nil) pa_nil))) (pa_cons (pe_lst (pa_cons (pe_tup pa_nil) pa_nil)) pa_nil)))))
        (pss_one (ps_ret pe_bl))
        pss_nil)
      (pss_cons (ps_if (PW.pt (pw_and (pt_cmpR (op_neD hr.units) (pv 5) (pe_lst pa_nil) (nomark _)) (pw_and1 (pt_cmpR op_lt (pe_callB call_len_seq (by rfl) (h.free "len") (by decide +kernel) (pa_cons (pv 5) pa_nil)) pe_int (nomark _)))))
        (pss_one (ps_if (pt_not (pt_val (pe_cal c__law_lesser_told hr passL (pa_cons (pv 1) (pa_cons (pv 4) (pa_cons (pv 5) (pa_cons (pe_callB call_len_seq (by rfl) (h.free "len") (by decide +kernel) (pa_cons (pv 8) pa_nil)) pa_nil)))))))
          (pss_one (ps_ret pe_bl))
          pss_nil))
        pss_nil)
      (pss_cons (ps_if (pt_cmpR (op_neD hr.units) (pe_cal c__law_marks hr passL (pa_cons (pv 4) (pa_cons (pv 5) pa_nil))) (pe_op op_rep (pe_lst (pa_cons pe_int pa_nil)) (pv 4)) (nomark _))
        (pss_one (ps_ret (pe_cal c__law_loose_told hr passL (pa_cons (pv 4) (pa_cons (pv 5) pa_nil)))))
        pss_nil)
      (pss_cons (ps_if (pt_not (pt_val (pe_cal c__law_turns_told hr passL (pa_cons (pv 7) (pa_cons (pe_cal c__law_turn_list hr passL (pa_cons (pv 4) (pa_cons (pv 5) pa_nil))) pa_nil)))))
        (pss_one (ps_ret pe_bl))
        pss_nil)
      (pss_cons (ps_if (pt_cmpR op_gt (pv 4) pe_int (nomark _))
        (pss_cons (ps_set (i := 9) sc_law.nd rfl (by first | exact Or.inl rfl | exact Or.inr rfl) (pe_cal c__law_draw hr passL (pa_cons (pv 1) (pa_cons (pv 4) pa_nil))))
        (pss_cons (ps_setLc (i := 10) (own := [("tie", 11)]) (by rfl) sc_law.nd rfl rfl (sw_true rfl rfl rfl (by decide +kernel)) (pi_list (pv 5)) (blkOk_by (own := [("tie", 11)]) (N := NN_law) (sc := defScope (top 52)) (by decide +kernel)) (fun _ _ _ _ _ => by exact (pg_name (i := 11) sc_law.nd rfl (by first | exact Or.inl rfl | exact Or.inr rfl))) (fun _ _ _ _ _ => by exact (pts_one (PW.pt (pw_and (pt_cmpR op_ne (pe_ix (ix_tupK K rfl) (pv 11) pe_int (fun _ _ => rfl)) (pv 9) (nomark _)) (pw_and1 (pt_cmpR op_ne (pe_ix (ix_tupK K rfl) (pv 11) pe_int (fun _ _ => rfl)) (pv 9) (nomark _))))))) (fun _ _ _ _ _ => by exact (pv 11)))
        (pss_one (ps_if (pt_not (pt_val (pe_cal c__law_loose_told hr passL (pa_cons (pv 4) (pa_cons (pv 10) pa_nil)))))
          (pss_one (ps_ret pe_bl))
          pss_nil))))
        pss_nil)
      (pss_one (ps_ret (pe_cal c__law_lots_are hr passL (pa_cons (pe_listG (pgen_call c_orders.ok (hr.mono (by decide)) (by rfl) c_orders.at_ c_orders.kp c_orders.b .nil (pa_cons (pv 7) pa_nil)) passL (fun _ _ _ z => z.elim) (hr.mono (by decide)) (by rfl) (h.free "list") (by decide +kernel)) (pa_cons (pv 8) pa_nil)))))))))))))))))))), ?_⟩
  obtain ⟨a, ns, rfl, ha, hq⟩ := hs
  refine ⟨_, rfl, a, ns, rfl, ha, fun H1 p S1 np hp => ?_⟩
  refine ⟨small_size (show 16 ≤ 1000 by decide), fun l0 hl0 => ?_⟩
  have T0 := (PoolTo.refl hp).upd (o := .lst [.int 6, .int 10, .int 8, .int 6, .int 6, .int 8, .int 6, .int 6, .int 6, .int 6, .int 6, .int 6, .int 6, .int 6, .int 6, .int 6]) hl0
  refine ⟨_, rfl, p, _, rfl, T0.2, by decide, bd64 (by decide), fun H2 i t2 i0 i6 => ?_⟩
  have lp : l0 ≠ p := fun z => by
    obtain ⟨xs, e, _⟩ := hp
    rw [z, e] at hl0
    cases hl0
  have h1 := t2.1 l0 _ lp upd_same
  obtain ⟨v, hv, hmv⟩ := atI_some (xs := ([.int 6, .int 10, .int 8, .int 6, .int 6, .int 8, .int 6, .int 6, .int 6, .int 6, .int 6, .int 6, .int 6, .int 6, .int 6, .int 6] : List V)) i0 (by simpa using i6)
  obtain ⟨m, rfl, m10⟩ : ∃ m : Nat, v = nI m ∧ m ≤ 10 := by
    simp only [List.mem_cons, List.mem_nil_iff, or_false] at hmv
    rcases hmv with e | e | e | e | e | e | e | e | e | e | e | e | e | e | e | e <;> first | exact ⟨6, e, by decide⟩ | exact ⟨10, e, by decide⟩ | exact ⟨8, e, by decide⟩
  have P2 := t2.2
  refine ⟨l0, _, _, _, rfl, rfl, SqL.of h1, hv, ?_⟩
  clear hv h1 hl0 T0 hmv hp t2 lp
  refine ⟨_, rfl, _, rfl, p, m, rfl, P2, m10, fun H3 dr l n xs0 Ts0 t3 hdr hl hx0 gw0 => ?_⟩
  have P3 := t3.2
  clear P2 t3
  refine ⟨_, rfl, dr, _, _, _, rfl, rfl, SqL.of hdr, atI_nat (j := 0) rfl, ?_⟩
  refine ⟨_, rfl, dr, _, _, _, rfl, rfl, SqL.of hdr, atI_nat (j := 1) rfl, _, rfl, _, rfl, l, _, rfl, SqL.of hl, fun tl htl => ?_⟩
  rw [cut_to]
  have ntl : tl ≠ p := fun z => by
    obtain ⟨xs, e, _⟩ := P3
    rw [z, e] at htl
    cases htl
  have u1 := same_upd (o := .lst (xs0.take m)) htl
  have P4 := P3.same u1
  have hx : RowsAt K (upd H3 tl (.lst (xs0.take m))) (xs0.take m) ((Ts0.take m).map tieR) := by
    rw [List.map_take]
    exact (hx0.take m).same u1
  have gw : GoodW n (Ts0.take m) := good_sub gw0 (by rw [List.length_take]; omega) fun t mt => List.mem_of_mem_take mt
  have ht4 : (upd H3 tl (.lst (xs0.take m))) tl = some (.lst (xs0.take m)) := upd_same
  clear hl hx0 gw0 u1 P3 hdr htl
  generalize upd H3 tl (.lst (xs0.take m)) = H4 at P4 hx ht4 ⊢
  generalize xs0.take m = xs at hx ht4 ⊢
  generalize Ts0.take m = Ts at hx gw ⊢
  have n1 := gw.n1
  have n6 := gw.n6
  have l10 := gw.len
  have lx := rows_len hx
  have hT := gw.ok.inn
  have laT : (arcs Ts).length = Ts.length := by simp
  refine ⟨_, rfl, tl, _, rfl, .inl (.inl (.inl ht4)), fun g hg => ?_⟩
  have u2 := same_upd (o := .lst xs) hg
  have hg5 : (upd H4 g (.lst xs)) g = some (.lst xs) := upd_same
  have ng : g ≠ tl := fun z => by
    rw [z, ht4] at hg
    cases hg
  have ngp : g ≠ p := fun z => by
    obtain ⟨ys, e, _⟩ := P4
    rw [z, e] at hg
    cases hg
  have P5 := P4.same u2
  have ht5 := u2 _ _ ht4
  have hx5 := hx.same u2
  clear P4 ht4 hx
  generalize upd H4 g (.lst xs) = H5 at hg5 P5 ht5 hx5 ⊢
  refine ⟨_, rfl, _, rfl, ?_⟩
  intro x dx nx ndx ne
  have u4 := same_upd (o := .own x) ndx
  have nx4 : (upd H5 dx (.own x)) x = none := by
    rw [upd_ne (Ne.symm ne)]
    exact nx
  have u5 := u4.trans (same_upd (o := .ins (wC K) dx []) nx4)
  refine ⟨x, g, dx, n, xs, Ts, rfl, upd_same, .inl (.inl (u5 _ _ (hg5))), (hx5).same u5, gw, fun H6 but hw => ⟨rfl, ?_⟩⟩
  have S6 : Same H5 H6 := fun b o q => but b o (ne_of_none q nx) (u5 _ _ q)
  clear u4 nx4 u5 but
  have P6 := P5.same S6
  have ht6 := S6 _ _ ht5
  have hg6 := S6 _ _ hg5
  have hx6 := hx5.same S6
  refine ⟨_, rfl, .inl ⟨rfl, _, SqL.of hg6⟩, small_size (show 3 ≤ 1000 by decide), fun z hz => ?_⟩
  have u7 := same_upd (o := .tup [.int 0, .int 0, .int 0]) hz
  have hg7 := u7 _ _ hg6
  refine ⟨g, _, _, rfl, rfl, hg7, small_lt (by omega), ?_⟩
  have kp : ∀ b o, b ≠ g → (upd H6 z (.tup [.int 0, .int 0, .int 0])) b = some o → (upd (upd H6 z (.tup [.int 0, .int 0, .int 0])) g (.lst (xs ++ [.ref z]))) b = some o := fun b o nb q => by
    rw [upd_ne nb]
    exact q
  have ht8 := kp _ _ (Ne.symm ng) (u7 _ _ ht6)
  have hx8 : RowsAt K (upd (upd H6 z (.tup [.int 0, .int 0, .int 0])) g (.lst (xs ++ [.ref z]))) xs (Ts.map tieR) := (hx6.same u7).updL hg7
  have P8 : PoolAt (upd (upd H6 z (.tup [.int 0, .int 0, .int 0])) g (.lst (xs ++ [.ref z]))) p := by
    obtain ⟨ys, e, le⟩ := P6
    exact ⟨ys, kp _ _ (Ne.symm ngp) (u7 _ _ e), le⟩
  have hw8 : WebAt K (upd (upd H6 z (.tup [.int 0, .int 0, .int 0])) g (.lst (xs ++ [.ref z]))) x n Ts := by
    obtain ⟨dx', t', ys, w1, w2, w3⟩ := hw.same u7
    exact ⟨dx', t', ys, kp _ _ (fun e => by rw [e, hg7] at w1; cases w1) w1, sqt_updL hg7 w2, w3.updL hg7⟩
  clear hg5 hg6 hg7 ht6 hx6 P6 P5 ht5 hx5 hw u7 kp hz
  generalize upd (upd H6 z (.tup [.int 0, .int 0, .int 0])) g (.lst (xs ++ [.ref z])) = H8 at ht8 hx8 P8 hw8 ⊢
  refine ⟨_, rfl, _, rfl, n, tl, xs, Ts, rfl, .inl (.inl ht8), hx8, hT, n6, l10, fun H9 du ys S9 nu hdu hy => ?_⟩
  have ndu : du ≠ p := fun e => by
    obtain ⟨zs, ep, _⟩ := P8
    rw [e, ep] at nu
    cases nu
  have L9 : LS K p x tl du n Ts xs ys H9 := ⟨P8.same S9, hw8.same S9, S9 _ _ ht8, ntl, hx8.same S9, hdu, ndu, hy⟩
  clear ht8 hx8 P8 hw8 S9 hdu hy
  refine ⟨_, rfl, _, rfl, x, du, n, Ts, ys, rfl, L9.web, gw, .inl (.inl L9.hdu), L9.ry, fun Ha Sa => ⟨_, rfl, iteF ?_⟩⟩
  have La := L9.same Sa
  clear L9 Sa
  refine ⟨_, rfl, size0, fun e0 he0 => ?_⟩
  have ub := same_upd (o := .lst []) he0
  have hb0 : (upd Ha e0 (.lst [])) e0 = some (.lst []) := upd_same
  have Lb := La.same ub
  clear La ub
  generalize upd Ha e0 (.lst []) = Hb at Lb hb0 ⊢
  have gN : GoodW n [] := ⟨n1, n6, by decide, fun t mt => by cases mt⟩
  intro x2 dx2 nx ndx ne
  have u4 := same_upd (o := .own x2) ndx
  have nx4 : (upd Hb dx2 (.own x2)) x2 = none := by
    rw [upd_ne (Ne.symm ne)]
    exact nx
  have u5 := u4.trans (same_upd (o := .ins (wC K) dx2 []) nx4)
  refine ⟨x2, e0, dx2, n, [], [], rfl, upd_same, .inl (.inl (u5 _ _ (hb0))), (RowsAt.nil (K := K) (H := Hb)).same u5, gN, fun Hc but hw2 => ⟨rfl, ?_⟩⟩
  have Sc : Same Hb Hc := fun b o q => but b o (ne_of_none q nx) (u5 _ _ q)
  clear u4 nx4 u5 but
  have Lc := Lb.same Sc
  clear Lb Sc hb0
  refine ⟨size0, fun e1 he1 => ?_⟩
  have ud := same_upd (o := .tup []) he1
  refine ⟨small_size (show 1 ≤ 1000 by decide), fun e2 he2 => ?_⟩
  have ue := same_upd (o := .lst [.ref e1]) he2
  have Le := (Lc.same ud).same ue
  have hw2e := (hw2.same ud).same ue
  have r1 : RowsAt K (upd (upd Hc e1 (.tup [])) e2 (.lst [.ref e1])) [.ref e1] (ordL [] (arcs [])) := by
    have e : ordL [] (arcs []) = [[]] := by
      show ordL [] [] = _
      unfold ordL
      rw [if_pos Acy.nil]
    rw [e]
    exact RowsAt.nil.snoc (d := []) ⟨e1, rfl, ue.tup (.inl (.inl upd_same))⟩
  refine ⟨x2, e2, n, [], _, rfl, hw2e, gN, .inl (.inl upd_same), r1, fun Hd Sd => ⟨_, rfl, iteF ?_⟩⟩
  have Ld := Le.same Sd
  clear Lc Le hw2e r1 Sd
  dsimp only [tNext]
  refine seq_cut (fun σ' H' => LS K p x tl du n Ts xs ys H' ∧ σ' = [some (.ref a), some (.ref p), some (nI m), some (.ref dr), some (nI n), some (.ref tl), some (.ref g), some (.ref x), some (.ref du), none, none, none]) (fun σ' H' hp1 => ?_) (fun R hR => ?_)
  rotate_left
  · refine ⟨_, rfl, size0, fun e he => ?_⟩
    have u := same_upd (o := .lst []) he
    have Lf := Ld.same u
    refine ⟨.list (dR (Ts.map tieR)), .list (dI []), dp_rows (.inl (.inl Lf.htl)) Lf.rx, dp_ints (.inl (.inl upd_same)), sh_rows _, sh_ints _, _, rfl, ?_⟩
    rw [eqvL_rows0]
    generalize upd Hd e (.lst []) = Hf at Lf ⊢
    refine ite2 (fun c => ?_) (fun c => ?_)
    · have tne : Ts ≠ [] := fun z => by
        rw [z] at c
        cases c
      refine ⟨_, rfl, tl, _, rfl, .inl (.inl (.inl Lf.htl)), _, _, rfl, rfl, _, rfl, ite2 (fun c2 => ?_) (fun c2 => ?_)⟩
      · refine ⟨_, rfl, _, rfl, _, rfl, _, rfl, du, _, rfl, .inl (.inl (.inl Lf.hdu)), p, tl, n, xs, Ts, by rw [Lf.ry.1]; rfl, Lf.pool, .inl (.inl Lf.htl), ntl, Lf.rx, gw, tne, fun Hg tg => ⟨_, rfl, iteF (hR _ _ ⟨Lf.to tg, rfl⟩)⟩⟩
      · exact hR _ _ ⟨Lf, rfl⟩
    · exact hR _ _ ⟨Lf, rfl⟩
  obtain ⟨Lf, rfl⟩ := hp1
  clear Ld
  refine ⟨_, rfl, _, rfl, n, tl, xs, Ts, rfl, .inl (.inl Lf.htl), Lf.rx, hT, n6, fun HB mk ms S5 nmk hmk hM h0 => ?_⟩
  have LB := Lf.same S5
  clear Lf
  refine ⟨small_size (show 1 ≤ 1000 by decide), fun z0 hz0 => ?_⟩
  have u6 := same_upd (o := .lst [.int 0]) hz0
  refine ⟨_, rfl, z0, _, _, rfl, rfl, upd_same, by omega, by omega, mid_le (by simp; omega), fun y0 hy0 => ?_⟩
  have e1' : (List.replicate (n : Int).toNat [V.int 0]).flatten = iL (List.replicate n 0) := by
    rw [Int.toNat_natCast]
    unfold iL
    rw [List.map_replicate]
    exact rep_flat _ n
  rw [e1']
  have u7 := same_upd (o := .lst (iL (List.replicate n 0))) hy0
  have hmk7 := (u6.trans u7) _ _ hmk
  rw [nL_int] at hmk7
  refine ⟨.list (dI (ms.map fun (n : Nat) => (n : Int))), .list (dI (List.replicate n 0)), dp_ints (.inl (.inl hmk7)), dp_ints (.inl (.inl upd_same)), sh_ints _, sh_ints _, _, rfl, ?_⟩
  rw [eqvL_ints]
  have key : (ms.map (fun (n : Nat) => (n : Int)) = List.replicate n 0) ↔ JoinedW n Ts := by
    rw [show JoinedW n Ts ↔ ∀ v, v < n → KG.Con (arcs Ts) 0 v from lotOf_all, ← marks_all hM (h0 (by omega))]
    constructor
    · intro e
      have := congrArg (List.map Int.toNat) e
      rw [List.map_map, List.map_replicate] at this
      have e2 : ms.map (Int.toNat ∘ fun (n : Nat) => (n : Int)) = ms := by
        conv => rhs; rw [← List.map_id ms]
        exact List.map_congr_left fun x _ => by simp
      rw [e2] at this
      exact this
    · intro e
      rw [e, List.map_replicate]
      rfl
  have LC := (LB.same u6).same u7
  clear LB u6 u7 hmk7 hmk
  generalize upd (upd HB z0 (.lst [.int 0])) y0 (.lst (iL (List.replicate n 0))) = HC at LC ⊢
  refine ite2 (fun c => ?_) (fun c => ?_)
  · have nj : ¬ JoinedW n Ts := fun j => by
      rw [decide_eq_true (key.mpr j)] at c
      cases c
    exact ⟨_, rfl, _, rfl, n, tl, xs, Ts, rfl, .inl (.inl LC.htl), LC.rx, gw, nj, fun HD SD => hq _⟩
  have jn : JoinedW n Ts := by
    by_cases e : ms.map (fun (n : Nat) => (n : Int)) = List.replicate n 0
    · exact key.mp e
    · rw [decide_eq_false e] at c
      exact absurd rfl c
  refine ⟨_, rfl, _, rfl, _, rfl, n, tl, xs, Ts, rfl, .inl (.inl LC.htl), LC.rx, gw, fun HD tu ts SD htu hts => ?_⟩
  have LD := LC.same SD
  clear LC
  refine ⟨x, tu, n, Ts, ts, rfl, LD.web, gw, jn, .inl (.inl htu), hts, fun HE SE => ⟨_, rfl, iteF ?_⟩⟩
  have LE := LD.same SE
  clear LD htu hts
  dsimp only [tNext]
  refine seq_cut (fun σ' H' => LS K p x tl du n Ts xs ys H' ∧ ∃ r8 r9 r10, σ' = [some (.ref a), some (.ref p), some (nI m), some (.ref dr), some (nI n), some (.ref tl), some (.ref g), some (.ref x), some (.ref du), r8, r9, r10]) (fun σ' H' hp1 => ?_) (fun R hR => ?_)
  rotate_left
  · refine ⟨_, rfl, _, _, rfl, rfl, _, rfl, ite2 (fun c => ?_) (fun c => ?_)⟩
    · have n2 := of_decide_eq_true c
      refine ⟨_, rfl, _, rfl, p, _, rfl, LE.pool, by omega, bd64 (by omega), fun HF pl tF p0 p1 => ?_⟩
      obtain ⟨pl, rfl⟩ := Int.eq_ofNat_of_zero_le p0
      have LF := LE.to tF
      refine ⟨_, rfl, tl, rfl, ⟨_, .inl (.inl LF.htl)⟩, fun Z hZ => lc_list (K := K) (a := tl) (xs := xs) (fun j G => ∃ acc, G = upd HF Z (.lst acc) ∧ RowsAt K HF acc (((Ts.take j).filter fun (u : Tie) => !decide (u.1 = pl) && !decide (u.2.1 = pl)).map tieR)) ⟨[], rfl, .nil⟩ ?_ ?_ ?_⟩
      · rintro j G _ ⟨acc, rfl, _⟩
        exact .inl (.inl (same_upd hZ _ _ LF.htl))
      · rintro j v G hv ⟨acc, rfl, st⟩
        have v1 := same_upd (H := HF) (o := .lst acc) hZ
        obtain ⟨u, q, hu, rfl, hq'⟩ := tie_get LF.rx hv
        refine ⟨rfl, and_rd (a := !decide (u.1 = pl)) (b := !decide (u.2.1 = pl)) (fun Q' q0 => ⟨_, rfl, q, _, _, _, rfl, rfl, v1.tup hq', atI_nat (j := 0) rfl, _, rfl, rfl, _, rfl, by rw [nat_eqb]; exact q0⟩) (fun Q' q0 => ⟨_, rfl, q, _, _, _, rfl, rfl, v1.tup hq', atI_nat (j := 1) rfl, _, rfl, rfl, _, rfl, by rw [nat_eqb]; exact q0⟩) (ite2 (fun c => ?_) (fun c => ?_))⟩
        · refine ⟨_, rfl, acc, upd_same, small_lt ?_, acc ++ [.ref q], by rw [upd_upd], ?_⟩
          · rw [st.1, List.length_map]
            exact Nat.le_trans (List.length_filter_le _ _) (by rw [List.length_take]; omega)
          · rw [filter_snoc hu, if_pos c, List.map_append]
            exact st.snoc ⟨q, rfl, hq'⟩
        · refine ⟨acc, rfl, ?_⟩
          rw [filter_snoc hu, if_neg c, List.append_nil]
          exact st
      · rintro G ⟨acc, rfl, st⟩
        rw [lx, List.take_length] at st
        have v1 := same_upd (H := HF) (o := .lst acc) hZ
        have gF : GoodW n (Ts.filter fun (u : Tie) => !decide (u.1 = pl) && !decide (u.2.1 = pl)) := good_sub gw (List.length_filter_le _ _) fun t mt => (List.mem_filter.mp mt).1
        have nj : ¬ JoinedW n (Ts.filter fun (u : Tie) => !decide (u.1 = pl) && !decide (u.2.1 = pl)) := not_joined (q := pl) (by omega) (by omega) fun t mt => by
          have := (List.mem_filter.mp mt).2
          simpa using this
        exact ⟨_, rfl, _, rfl, n, Z, acc, _, rfl, .inl (.inl upd_same), st.same v1, gF, nj, fun HG SG => ⟨_, rfl, iteF (hR _ _ ⟨(LF.same v1).same SG, _, _, _, rfl⟩)⟩⟩
    · exact hR _ _ ⟨LE, _, _, _, rfl⟩
  obtain ⟨LH, r8, r9, r10, rfl⟩ := hp1
  refine ⟨_, rfl, x, n, Ts, rfl, LH.web, gw, fun HI os SI hos g2 hg2 => ?_⟩
  have LI := LH.same SI
  have uj := same_upd (o := .lst os) hg2
  have LJ := LI.same uj
  refine ⟨_, rfl, g2, du, os, ys, _, rfl, .inl (.inl upd_same), .inl (.inl LJ.hdu), hos.same uj, LJ.ry, Nat.le_trans (ordL_le (by omega)) (by decide), fun d md => ?_, hq _⟩
  rw [ordL_filter] at md
  have z := mem_waysOf_len (List.mem_filter.mp md).1
  rw [List.length_map] at z
  omega
end
end K3
namespace K3
open PySem PySem.Spec PyProof.Rows L2 He HX KG
theorem law_ok {w : World} {K : PySem.W.Frag} {mg : Str → Option Value} {base : Heap} (h : HK K mg) : Cal PR w K mg base 16 "law" ["script"] (sp_law K) := by
  have c_copied : Cal PR w K mg base 2 "copied" ["value"] (sp_copied K) := ok_copied (P := PR) (w := w) (base := base) h
  have x_BadCount := ok_X_BadCount (w := w) (base := base) (h := h) 
  have x_BadTie := ok_X_BadTie (w := w) (base := base) (h := h) 
  have c_Webd_initd := ok_Webd_initd (P := PR) (w := w) (base := base) (h := h) (x_BadCount := x_BadCount) (x_BadTie := x_BadTie)
  have c__law_draw := ok__law_draw (P := PR) (w := w) (base := base) (h := h) 
  have c__law_one_place := ok__law_one_place (P := PR) (w := w) (base := base) (h := h) 
  have c__law_arcs := ok__law_arcs (P := PR) (w := w) (base := base) (h := h) 
  have c__law_vanish := ok__law_vanish (P := PR) (w := w) (base := base) (h := h) 
  have c__law_ways := ok__law_ways (P := PR) (w := w) (base := base) (h := h) 
  have c__law_order_list := ok__law_order_list (P := PR) (w := w) (base := base) (h := h) (c__law_arcs := c__law_arcs) (c__law_vanish := c__law_vanish) (c__law_ways := c__law_ways)
  have c__law_int := ok__law_int (P := PR) (w := w) (base := base) (h := h) 
  have c__law_row_is := ok__law_row_is (P := PR) (w := w) (base := base) (h := h) (c__law_int := c__law_int)
  have c__law_lots_are := ok__law_lots_are (P := PR) (w := w) (base := base) (h := h) (c__law_row_is := c__law_row_is)
  have c_plain_pairs := ok_plain_pairs (P := PR) (w := w) (base := base) (h := h) 
  have c_order_count := ok_order_count (P := PR) (w := w) (base := base) (h := h) (c_plain_pairs := c_plain_pairs)
  have c_start_masks := ok_start_masks (P := PR) (w := w) (base := base) (h := h) 
  have c_with_arc := ok_with_arc (P := PR) (w := w) (base := base) (h := h) 
  have c_with_tie := ok_with_tie (P := PR) (w := w) (base := base) (h := h) (c_with_arc := c_with_arc)
  have c_order_list := ok_order_list (P := PR) (w := w) (base := base) (h := h) (c_start_masks := c_start_masks) (c_with_tie := c_with_tie)
  have c_orders := ok_orders (P := PR) (w := w) (base := base) (h := h) (c_order_list := c_order_list)
  have c__law_orders_told := ok__law_orders_told (P := PR) (w := w) (base := base) (h := h) (c__law_int := c__law_int) (c__law_lots_are := c__law_lots_are) (c_order_count := c_order_count) (c_orders := c_orders)
  have c__law_lesser_told := ok__law_lesser_told (P := PR) (w := w) (base := base) (h := h) (c_Webd_initd := c_Webd_initd) (c__law_draw := c__law_draw) (c__law_one_place := c__law_one_place) (c__law_order_list := c__law_order_list) (c__law_orders_told := c__law_orders_told)
  have c__law_marks := ok__law_marks (P := PR) (w := w) (base := base) (h := h) 
  have x_BadPlace := ok_X_BadPlace (w := w) (base := base) (h := h) (c_copied := c_copied)
  have c_hanging := ok_hanging (P := PR) (w := w) (base := base) (h := h) 
  have c_Web_together := ok_Web_together (P := PR) (w := w) (base := base) (h := h) (x_BadPlace := x_BadPlace) (c_hanging := c_hanging)
  have c_Web_is_joined := ok_Web_is_joined (P := PR) (w := w) (base := base) (h := h) (c_Web_together := c_Web_together)
  have x_Loose := ok_X_Loose (w := w) (base := base) (h := h) (c_copied := c_copied)
  have c_look_joined := ok_look_joined (P := PR) (w := w) (base := base) (h := h) (c_Web_is_joined := c_Web_is_joined) (c_Web_together := c_Web_together) (x_Loose := x_Loose)
  have c_joined_marks := ok_joined_marks (P := PR) (w := w) (base := base) (h := h) 
  have c_tree_and_free := ok_tree_and_free (P := PR) (w := w) (base := base) (h := h) (c_joined_marks := c_joined_marks)
  have c_with_number := ok_with_number (P := PR) (w := w) (base := base) (h := h) 
  have c_ways_home := ok_ways_home (P := PR) (w := w) (base := base) (h := h) (c_with_number := c_with_number)
  have c_base_flows := ok_base_flows (P := PR) (w := w) (base := base) (h := h) (c_tree_and_free := c_tree_and_free) (c_ways_home := c_ways_home) (c_with_number := c_with_number)
  have c_flow_pairs := ok_flow_pairs (P := PR) (w := w) (base := base) (h := h) (c_base_flows := c_base_flows)
  have c_bridges := ok_bridges (P := PR) (w := w) (base := base) (h := h) (c_flow_pairs := c_flow_pairs) (c_look_joined := c_look_joined)
  have c_has_walks := ok_has_walks (P := PR) (w := w) (base := base) (h := h) (c_start_masks := c_start_masks) (c_with_arc := c_with_arc)
  have c_turn_list := ok_turn_list (P := PR) (w := w) (base := base) (h := h) (c_bridges := c_bridges) (c_has_walks := c_has_walks)
  have c_turn_count := ok_turn_count (P := PR) (w := w) (base := base) (h := h) (c_look_joined := c_look_joined) (c_turn_list := c_turn_list)
  have c_turns := ok_turns (P := PR) (w := w) (base := base) (h := h) (c_look_joined := c_look_joined) (c_turn_list := c_turn_list)
  have c__law_try := ok__law_try (P := PR) (w := w) (base := base) (h := h) (c_turn_count := c_turn_count) (c_turns := c_turns)
  have c__law_loose_told := ok__law_loose_told (P := PR) (w := w) (base := base) (h := h) (c_Webd_initd := c_Webd_initd) (c__law_marks := c__law_marks) (c__law_order_list := c__law_order_list) (c__law_orders_told := c__law_orders_told) (c__law_row_is := c__law_row_is) (c__law_try := c__law_try)
  have c__law_pool := ok__law_pool (P := PR) (w := w) (base := base) (h := h) 
  have c__law_return := ok__law_return (P := PR) (w := w) (base := base) (h := h) 
  have c__law_turn_list := ok__law_turn_list (P := PR) (w := w) (base := base) (h := h) (c__law_arcs := c__law_arcs) (c__law_marks := c__law_marks) (c__law_return := c__law_return) (c__law_ways := c__law_ways)
  have c__law_turns_told := ok__law_turns_told (P := PR) (w := w) (base := base) (h := h) (c__law_int := c__law_int) (c__law_lots_are := c__law_lots_are) (c_turn_count := c_turn_count) (c_turns := c_turns)
  have c__law_web := ok__law_web (P := PR) (w := w) (base := base) (h := h) (c__law_draw := c__law_draw)
  have c_law := ok_law (P := PR) (w := w) (base := base) (h := h) (c_Webd_initd := c_Webd_initd) (c__law_draw := c__law_draw) (c__law_lesser_told := c__law_lesser_told) (c__law_loose_told := c__law_loose_told) (c__law_lots_are := c__law_lots_are) (c__law_marks := c__law_marks) (c__law_order_list := c__law_order_list) (c__law_orders_told := c__law_orders_told) (c__law_pool := c__law_pool) (c__law_turn_list := c__law_turn_list) (c__law_turns_told := c__law_turns_told) (c__law_web := c__law_web) (c_orders := c_orders)
  exact c_law
/-- a law: F gives the written part, the function object, the promise over every base -/
theorem walk_ofEX {l : PySem.W.OpenLaw} {n k : Nat} {q : Program} {loose : List Str} {XP : (Str → Option Value) → Heap → Prop} {YP : World → Heap → Prop} {d : DefRec} {CX : World → CXT} {x : Str}
    (hn : l.most = some n) (hn2 : n ≤ sizeLine) (hdf : d.params.defaults = []) (hr : Room k callerA)
    (F : ∀ (w : World) (mg : Str → Option Value) (fa : Addr) (h : Heap), YP w h → h.Ns mainGlobals mg → mg d.name = some (.ref fa) →
      ∃ (K : PySem.W.Frag) (fd : FuncData) (sp : Sp), K.In h ∧ (∀ (s : Shared) (u : Value), BindsTo s fd ⟨[u], []⟩ [(x, u)]) ∧
        (∀ (H : Hp) (a : Addr) (ns : List Int), ns.length ≤ n → Only H → SqL K H a (ns.map V.int) → sp [.ref a] H (fun v _ => v = .bl true) fun _ _ _ => False) ∧
        ∀ base : Heap, K.In base → base.Ns mainGlobals mg → FnOk l.prog w K mg base (CX w) k fa fd [x] sp)
    (hCX : ∀ (w : World) (H : Hp) (s : Shared) (e : Value) (s' : Shared), CX w [] H s (fun _ _ _ => False) e s' → False) :
    PySem.W.WalkO q loose XP YP l.row.toRowW d [] (fun f vs => PySem.call f vs) := by
  refine Att.attach_call hn hdf fun w s₀ s₁ mg mb fa o pm cd doc a vs ns G Y ho hd hcd hmg hobj hints hlen hg => ?_
  obtain ⟨K, fd, sp, KX, hb, hsp, hF⟩ := F w mg fa _ Y G.T.g hmg
  exact law_call KX G.T.g G.T.b G.T.builtins G.T.nolimit hg hobj hints (Nat.le_trans hlen hn2) hr hF hb (fun H hO hS => hsp H a ns hlen hO hS) fun H e s' => hCX w H s₁ e s'
theorem facts {w : World} {K : PySem.W.Frag} {h : Heap} {mg : Str → Option Value} {f : Addr} (X : K.In h) (G : h.Ns mainGlobals mg) (hfa : mg ("law" : Str) = some (.ref f)) (c : SaysX K) :
    ∃ fd : FuncData, (∀ (s : Shared) (v : Value), BindsTo s fd ⟨[v], []⟩ [("script", v)]) ∧ ∀ base : Heap, K.In base → base.Ns mainGlobals mg → FnOk PR w K mg base (L2.CX PR w) 16 f fd ["script"] (sp_law K) := by
  have hk := hk_of c X G
  have e := hfa.symm.trans (hk.glo "law")
  cases e
  have F : FunD K "law" "law" (defArgs (top 52)) (defBody (top 52)) (defScope (top 52)) [] [] (ga K "law") (fdA K (ga K "law")) := hk.says.funD 43
  have b := FunD.bindsA (ps := ["script"]) F fun _ _ _ _ _ _ us hl => match us, hl with | [_], _ => rfl
  exact ⟨fdA K (ga K "law"), fun s v => b s [v] rfl, fun base _ _ => (law_ok hk).ok⟩
end K3
open PySem PySem.W PySem.Calls PyProof.Rows
theorem PySem.Challenge.cw_leastrows_k53_orders_counted_holds : PySem.Challenge.rw_leastrows_k53_orders_counted.Holds := by
  w_on; o_law
  refine HandSHeadRun.head_any (r := OpenLaw.row PySem.Challenge.rw_leastrows_k53_orders_counted) (q := view (OpenLaw.row PySem.Challenge.rw_leastrows_k53_orders_counted).prog [52]) (H := K3.hk) (ob := K3.ob) (M := 20000) (loose := K3.looseN) (d := HandSHeadRun.topDef (OpenLaw.row PySem.Challenge.rw_leastrows_k53_orders_counted).prog 52) (kwd := []) K3.ob_eq
    (by kernel_rfl) (fun s => by kernel_rfl) K3.run (by kernel_rfl) (by kernel_rfl) (by kernel_rfl) (by rfl) (by first | assumption | decide +kernel) (by decide +kernel) ⟨rfl, rfl, rfl, rfl, rfl, by decide +kernel⟩ ?hw ?hc
  case hw => w_witness2
  case hc =>
    refine K3.walk_ofEX (l := PySem.Challenge.rw_leastrows_k53_orders_counted) (n := 63) (k := 16) (x := "script") (CX := fun w => L2.CX K3.PR w) rfl (by decide) (by kernel_rfl) ⟨rfl, by decide, by decide⟩ ?F (fun w H s e s' z => ?CXf)
    case CXf =>
      obtain ⟨_, _, _, _, _, _, _, _, _, _, _, _, z⟩ := z
      exact z
    case F =>
    intro w mg fa h Y G hmg0
    obtain ⟨K, KX, c⟩ := Y
    have hmg : mg ("law" : PySem.Str) = some (.ref fa) := by
      have e : (HandSHeadRun.topDef (OpenLaw.row PySem.Challenge.rw_leastrows_k53_orders_counted).prog 52).name = ("law" : PySem.Str) := by kernel_rfl
      rw [← e]
      exact hmg0
    obtain ⟨fd, hb, hF⟩ := K3.facts (w := w) KX G hmg c
    exact ⟨K, fd, K3.sp_law K, KX, hb, fun H a ns hl _ hS => ⟨a, ns, rfl, hS, fun _ => rfl⟩, hF⟩
