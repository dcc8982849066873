import PyProof.Rows.All
import Wide.All
import OpenK.AllK
import Wide.FinOn
import KE.KDictKeyed
import KE.GoesEnum
import HandS.ForMost
import HandS.TupAny
import HandS.Deep
import HandS.IsInst
import HandS.Style
import HandS.More
import HandS.Walk
import HandS.Codes
import PySem.Challenge.RW_graftsay_k12_whole_plans_and_sizes
set_option Elab.async false
set_option linter.all false
/-! the mathematics of trees, plans and books: no program in sight -/
namespace G
open PySem

inductive Tre where
  | sign (s : Str)
  | void
  | hole (n : Str)
  | foot (n : Str)
  | knot (n : Str) (tk : Option (Str × Bool)) (ks : List Tre)

def kids : Tre → List Tre
  | .knot _ _ ks => ks
  | _ => []
mutual
def depth : Tre → Nat
  | .knot _ _ ks => depthL ks + 1
  | .sign _ => 1
  | .void => 1
  | .hole _ => 1
  | .foot _ => 1
def depthL : List Tre → Nat
  | [] => 0
  | t :: r => max (depth t) (depthL r)
end
mutual
def places : Tre → List (List Nat)
  | .knot _ _ ks => [] :: placesL 0 ks
  | .sign _ => [[]]
  | .void => [[]]
  | .hole _ => [[]]
  | .foot _ => [[]]
def placesL (k : Nat) : List Tre → List (List Nat)
  | [] => []
  | t :: r => (places t).map (k :: ·) ++ placesL (k + 1) r
end
mutual
def pieces (p : List Nat) : Tre → List (List Nat × Tre)
  | .knot n tk ks => (p, .knot n tk ks) :: piecesL p 0 ks
  | .sign s => [(p, .sign s)]
  | .void => [(p, .void)]
  | .hole n => [(p, .hole n)]
  | .foot n => [(p, .foot n)]
def piecesL (p : List Nat) (k : Nat) : List Tre → List (List Nat × Tre)
  | [] => []
  | t :: r => pieces (p ++ [k]) t ++ piecesL p (k + 1) r
end
def get : Tre → List Nat → Tre
  | t, [] => t
  | t, k :: q => match (kids t)[k]? with
    | some c => get c q
    | none => t
def okP : Tre → List Nat → Prop
  | _, [] => True
  | t, k :: q => ∃ c, (kids t)[k]? = some c ∧ okP c q
def subs (t : Tre) : List Tre := (places t).map (get t)
def footN : Tre → Option Str
  | .foot n => some n
  | _ => none
def feet (t : Tre) : List Str := (subs t).filterMap footN
def cnt (t : Tre) : Nat := (places t).length
def lab : Tre → Str
  | .sign s => s
  | .void => ⟨#[]⟩
  | .hole n => n
  | .foot n => n
  | .knot n _ _ => n
def want : Tre → Option (Bool × Str × Bool)
  | .hole n => some (false, n, true)
  | .knot _ (some (m, b)) _ => some (true, m, b)
  | _ => none
def isGraft (t : Tre) : Bool := (feet t).length == 1
def nameOf (t : Tre) : Str := match feet t with
  | [n] => n
  | _ => lab t
def called (t : Tre) : Bool × Str := match feet t with
  | n :: _ => (true, n)
  | [] => (false, lab t)

theorem get_knot {n : Str} {tk : Option (Str × Bool)} {pre r : List Tre} {t : Tre} {q : List Nat} : get (.knot n tk (pre ++ t :: r)) (pre.length :: q) = get t q := by
  rw [get]
  have e : (kids (.knot n tk (pre ++ t :: r)))[pre.length]? = some t := by simp [kids]
  rw [e]
theorem pieces_leaf {t : Tre} (h : kids t = []) (hk : ∀ n tk, t ≠ .knot n tk []) (p : List Nat) : pieces p t = [(p, t)] := by
  cases t with
  | knot n tk ks => exact absurd (by rw [show ks = [] from h]) (hk n tk)
  | _ => simp [pieces]

mutual
theorem pieces_eq (p : List Nat) : ∀ t : Tre, pieces p t = (places t).map fun q => (p ++ q, get t q)
  | .knot n tk ks => by
    have h := piecesL_eq p n tk [] ks
    simp only [List.nil_append, List.length_nil] at h
    rw [pieces, places, h, List.map_cons, List.append_nil]
    rfl
  | .sign s => by simp [pieces, places, get]
  | .void => by simp [pieces, places, get]
  | .hole n => by simp [pieces, places, get]
  | .foot n => by simp [pieces, places, get]
theorem piecesL_eq (p : List Nat) (n : Str) (tk : Option (Str × Bool)) : ∀ (pre ks : List Tre), piecesL p pre.length ks = (placesL pre.length ks).map fun q => (p ++ q, get (.knot n tk (pre ++ ks)) q)
  | pre, [] => by simp [piecesL, placesL]
  | pre, t :: r => by
    have h1 := pieces_eq (p ++ [pre.length]) t
    have h2 := piecesL_eq p n tk (pre ++ [t]) r
    simp only [List.length_append, List.length_singleton, List.append_assoc, List.singleton_append] at h2
    rw [piecesL, placesL, h1, h2, List.map_append, List.map_map]
    congr 1
    refine List.map_congr_left fun q _ => ?_
    simp only [Function.comp, get_knot, List.append_assoc, List.singleton_append]
end
mutual
theorem places_ok : ∀ t : Tre, ∀ q ∈ places t, okP t q
  | .knot n tk ks, q, hq => by
    rw [places] at hq
    rcases List.mem_cons.mp hq with e | hq
    · subst e; simp [okP]
    · exact placesL_ok n tk [] ks q hq
  | .sign s, q, hq => by simp [places] at hq; subst hq; simp [okP]
  | .void, q, hq => by simp [places] at hq; subst hq; simp [okP]
  | .hole s, q, hq => by simp [places] at hq; subst hq; simp [okP]
  | .foot s, q, hq => by simp [places] at hq; subst hq; simp [okP]
theorem placesL_ok (n : Str) (tk : Option (Str × Bool)) : ∀ (pre ks : List Tre), ∀ q ∈ placesL pre.length ks, okP (.knot n tk (pre ++ ks)) q
  | pre, [], q, hq => by simp [placesL] at hq
  | pre, t :: r, q, hq => by
    rw [placesL] at hq
    rcases List.mem_append.mp hq with hq | hq
    · obtain ⟨q', hq', e⟩ := List.mem_map.mp hq
      subst e
      exact ⟨t, by simp [kids], places_ok t q' hq'⟩
    · have h := placesL_ok n tk (pre ++ [t]) r q (by simpa using hq)
      simpa using h
end
mutual
theorem subs_all : ∀ t : Tre, subs t = match t with
    | .knot n tk ks => .knot n tk ks :: ks.flatMap subs
    | t => [t]
  | .knot n tk ks => by
    have h := subsL_all n tk [] ks
    simp only [List.nil_append, List.length_nil] at h
    show (places (.knot n tk ks)).map (get (.knot n tk ks)) = _
    rw [places, List.map_cons, h]
    rfl
  | .sign s => by simp [subs, places, get]
  | .void => by simp [subs, places, get]
  | .hole s => by simp [subs, places, get]
  | .foot s => by simp [subs, places, get]
theorem subsL_all (n : Str) (tk : Option (Str × Bool)) : ∀ (pre ks : List Tre), (placesL pre.length ks).map (get (.knot n tk (pre ++ ks))) = ks.flatMap subs
  | pre, [] => by simp [placesL]
  | pre, t :: r => by
    have h2 := subsL_all n tk (pre ++ [t]) r
    simp only [List.length_append, List.length_singleton, List.append_assoc, List.singleton_append] at h2
    rw [placesL, List.map_append, h2, List.flatMap_cons, List.map_map]
    congr 1
    show _ = (places t).map (get t)
    refine List.map_congr_left fun q _ => ?_
    simp only [Function.comp, get_knot]
end
theorem subs_knot (n : Str) (tk : Option (Str × Bool)) (ks : List Tre) : subs (.knot n tk ks) = .knot n tk ks :: ks.flatMap subs := subs_all (.knot n tk ks)
theorem cnt_subs (t : Tre) : cnt t = (subs t).length := by simp [cnt, subs]
theorem feet_knot (n : Str) (tk : Option (Str × Bool)) (ks : List Tre) : feet (.knot n tk ks) = ks.flatMap feet := by
  unfold feet
  rw [subs_knot, List.filterMap_cons]
  simp only [footN]
  induction ks with
  | nil => rfl
  | cons c r ih => rw [List.flatMap_cons, List.filterMap_append, ih, List.flatMap_cons]
theorem cnt_knot (n : Str) (tk : Option (Str × Bool)) (ks : List Tre) : cnt (.knot n tk ks) = 1 + (ks.map cnt).sum := by
  rw [cnt_subs, subs_knot, List.length_cons]
  have h : (ks.flatMap subs).length = (ks.map cnt).sum := by
    induction ks with
    | nil => rfl
    | cons c r ih => rw [List.flatMap_cons, List.length_append, ih, List.map_cons, List.sum_cons, cnt_subs]
  omega
mutual
theorem place_len : ∀ (t : Tre) (q : List Nat), q ∈ places t → q.length + 1 ≤ depth t
  | .knot n tk ks, q, hq => by
    rw [places] at hq
    rw [depth]
    rcases List.mem_cons.mp hq with e | hq
    · subst e; simp
    · have := placeL_len 0 ks q hq
      omega
  | .sign s, q, hq => by simp [places] at hq; subst hq; simp [depth]
  | .void, q, hq => by simp [places] at hq; subst hq; simp [depth]
  | .hole s, q, hq => by simp [places] at hq; subst hq; simp [depth]
  | .foot s, q, hq => by simp [places] at hq; subst hq; simp [depth]
theorem placeL_len (k : Nat) : ∀ (ks : List Tre) (q : List Nat), q ∈ placesL k ks → q.length ≤ depthL ks
  | [], q, hq => by simp [placesL] at hq
  | t :: r, q, hq => by
    rw [placesL] at hq
    rw [depthL]
    rcases List.mem_append.mp hq with hq | hq
    · obtain ⟨q', hq', e⟩ := List.mem_map.mp hq
      subst e
      have := place_len t q' hq'
      rw [List.length_cons]
      omega
    · have := placeL_len (k + 1) r q hq
      omega
end
theorem depth_pos (t : Tre) : 1 ≤ depth t := by cases t <;> simp [depth]
theorem depthL_mem : ∀ {ks : List Tre} {c : Tre}, c ∈ ks → depth c ≤ depthL ks
  | t :: r, c, h => by
    rw [depthL]
    rcases List.mem_cons.mp h with e | h
    · subst e; omega
    · have := depthL_mem h; omega
theorem depth_kid {t c : Tre} (h : c ∈ kids t) : depth c + 1 ≤ depth t := by
  cases t with
  | knot n tk ks => rw [depth]; have := depthL_mem (ks := ks) (c := c) h; omega
  | _ => simp [kids] at h
theorem depthL_le : ∀ {ks : List Tre} {d : Nat}, (∀ c ∈ ks, depth c ≤ d) → depthL ks ≤ d
  | [], _, _ => by simp [depthL]
  | t :: r, d, h => by
    rw [depthL]
    have h1 := h t List.mem_cons_self
    have h2 := depthL_le (ks := r) (d := d) fun c hc => h c (List.mem_cons_of_mem _ hc)
    omega
theorem depth_subs {t s : Tre} (h : s ∈ subs t) : depth s ≤ depth t := by
  have go : ∀ n, ∀ t : Tre, depth t ≤ n → ∀ s ∈ subs t, depth s ≤ depth t := by
    intro n
    induction n with
    | zero => intro t ht; have := depth_pos t; omega
    | succ n ih =>
      intro t ht s hs
      cases t with
      | knot m tk ks =>
        rw [subs_knot] at hs
        rcases List.mem_cons.mp hs with e | hs
        · subst e; exact Nat.le_refl _
        · obtain ⟨c, hc, hs⟩ := List.mem_flatMap.mp hs
          have h1 := depth_kid (t := .knot m tk ks) (c := c) hc
          have h2 := ih c (by omega) s hs
          omega
      | _ => rw [subs_all] at hs; simp at hs; subst hs; exact Nat.le_refl _
  exact go _ t (Nat.le_refl _) s h

/-! ### the order of places -/
def lt : List Nat → List Nat → Bool
  | [], [] => false
  | [], _ :: _ => true
  | _ :: _, [] => false
  | x :: xs, y :: ys => if x = y then lt xs ys else decide (x < y)
mutual
theorem places_sorted : ∀ t : Tre, (places t).Pairwise fun a b => lt a b = true
  | .knot n tk ks => by
    rw [places]
    refine List.pairwise_cons.mpr ⟨fun q hq => ?_, placesL_sorted 0 ks⟩
    obtain ⟨j, r, e, _⟩ := placesL_cons 0 ks q hq
    subst e
    simp [lt]
  | .sign s => by simp [places]
  | .void => by simp [places]
  | .hole s => by simp [places]
  | .foot s => by simp [places]
theorem placesL_sorted (k : Nat) : ∀ ks : List Tre, (placesL k ks).Pairwise fun a b => lt a b = true
  | [] => by simp [placesL]
  | t :: r => by
    rw [placesL]
    refine List.pairwise_append.mpr ⟨?_, placesL_sorted (k + 1) r, fun a ha b hb => ?_⟩
    · refine List.pairwise_map.mpr ((places_sorted t).imp fun {a b} h => ?_)
      simp [lt, h]
    · obtain ⟨a', _, e⟩ := List.mem_map.mp ha
      subst e
      obtain ⟨j, b', e, hj⟩ := placesL_cons (k + 1) r b hb
      subst e
      rw [lt]
      rw [if_neg (by omega)]
      simp; omega
theorem placesL_cons (k : Nat) : ∀ (ks : List Tre) (q : List Nat), q ∈ placesL k ks → ∃ j r, q = j :: r ∧ k ≤ j
  | [], q, h => by simp [placesL] at h
  | t :: r, q, h => by
    rw [placesL] at h
    rcases List.mem_append.mp h with h | h
    · obtain ⟨q', _, e⟩ := List.mem_map.mp h
      exact ⟨k, q', e.symm, Nat.le_refl _⟩
    · obtain ⟨j, r', e, hj⟩ := placesL_cons (k + 1) r q h
      exact ⟨j, r', e, by omega⟩
end
theorem lt_irrefl : ∀ a : List Nat, lt a a = false
  | [] => rfl
  | x :: xs => by rw [lt, if_pos rfl]; exact lt_irrefl xs
theorem places_nodup (t : Tre) : (places t).Nodup := (places_sorted t).imp fun {a b} h e => by subst e; rw [lt_irrefl] at h; cases h
end G
set_option Elab.async false
set_option linter.all false
namespace G
open PySem

/-! ### all pieces of a tree -/
def allP (P : Tre → Prop) (t : Tre) : Prop := ∀ s ∈ subs t, P s
theorem allP_knot {P : Tre → Prop} {n : Str} {tk : Option (Str × Bool)} {ks : List Tre} : allP P (.knot n tk ks) ↔ P (.knot n tk ks) ∧ ∀ c ∈ ks, allP P c := by
  unfold allP
  rw [subs_knot]
  constructor
  · intro h
    exact ⟨h _ List.mem_cons_self, fun c hc s hs => h s (List.mem_cons_of_mem _ (List.mem_flatMap.mpr ⟨c, hc, hs⟩))⟩
  · rintro ⟨h0, h⟩ s hs
    rcases List.mem_cons.mp hs with e | hs
    · subst e; exact h0
    · obtain ⟨c, hc, hs⟩ := List.mem_flatMap.mp hs
      exact h c hc s hs
theorem allP_leaf {P : Tre → Prop} {t : Tre} (h : ∀ n tk ks, t ≠ .knot n tk ks) (p : P t) : allP P t := by
  intro s hs
  rw [subs_all] at hs
  cases t with
  | knot n tk ks => exact absurd rfl (h n tk ks)
  | _ => simp at hs; subst hs; exact p
theorem get_mem {t : Tre} {q : List Nat} (h : q ∈ places t) : get t q ∈ subs t := List.mem_map.mpr ⟨q, h, rfl⟩

/-- the three names -/
def Nm (n : Str) : Prop := n = "S" ∨ n = "S1" ∨ n = "S2"
/-- .. or one more -/
def Nz (n : Str) : Prop := Nm n ∨ n = "Z"
/-- what is wanted at a piece has one of the four names, what must be put one of the three -/
def MustNm (t : Tre) : Prop := ∀ g n b, want t = some (g, n, b) → Nz n ∧ (b = true → Nm n)
def MustOk (t : Tre) : Prop := allP MustNm t

/-- a kid as it is drawn with so much left -/
def capK : Nat → Nat
  | 0 => 1
  | n + 1 => 1 + 3 * capK n
structure KidOk (l : Nat) (t : Tre) : Prop where
  dep : depth t ≤ l + 1
  cn : cnt t ≤ capK l
  ft : feet t = []
  mu : MustOk t
theorem KidOk.leaf {l : Nat} {t : Tre} (hk : ∀ n tk ks, t ≠ .knot n tk ks) (hf : ∀ n, t ≠ .foot n) (hm : MustNm t) : KidOk l t := by
  refine ⟨?_, ?_, ?_, allP_leaf hk hm⟩
  · cases t with
    | knot n tk ks => exact absurd rfl (hk n tk ks)
    | _ => simp [depth]
  · have h1 : cnt t = 1 := by
      cases t with
      | knot n tk ks => exact absurd rfl (hk n tk ks)
      | _ => simp [cnt, places]
    rw [h1]
    cases l with
    | zero => exact Nat.le_refl _
    | succ n => rw [capK]; omega
  · cases t with
    | knot n tk ks => exact absurd rfl (hk n tk ks)
    | foot n => exact absurd rfl (hf n)
    | _ => simp [feet, subs_all, footN]
theorem sum_cnt_le {ks : List Tre} {m : Nat} (h : ∀ c ∈ ks, cnt c ≤ m) : (ks.map cnt).sum ≤ ks.length * m := by
  induction ks with
  | nil => simp
  | cons c r ih =>
    have h1 := h c List.mem_cons_self
    have h2 := ih fun c hc => h c (List.mem_cons_of_mem _ hc)
    rw [List.map_cons, List.sum_cons, List.length_cons, Nat.succ_mul]
    omega
theorem feet_nil {ks : List Tre} (h : ∀ c ∈ ks, feet c = []) : ks.flatMap feet = [] := by
  induction ks with
  | nil => rfl
  | cons c r ih => rw [List.flatMap_cons, h c List.mem_cons_self, ih fun c hc => h c (List.mem_cons_of_mem _ hc)]; rfl
theorem KidOk.knot {l : Nat} {n : Str} {tk : Option (Str × Bool)} {ks : List Tre} (h3 : ks.length ≤ 3) (hk : ∀ c ∈ ks, KidOk l c) (hm : MustNm (.knot n tk ks)) : KidOk (l + 1) (.knot n tk ks) := by
  refine ⟨?_, ?_, ?_, allP_knot.mpr ⟨hm, fun c hc => (hk c hc).mu⟩⟩
  · rw [depth]
    have := depthL_le (ks := ks) (d := l + 1) fun c hc => (hk c hc).dep
    omega
  · rw [cnt_knot, capK]
    have h1 := sum_cnt_le (ks := ks) (m := capK l) fun c hc => (hk c hc).cn
    have h2 : ks.length * capK l ≤ 3 * capK l := Nat.mul_le_mul_right _ h3
    omega
  · rw [feet_knot]
    exact feet_nil fun c hc => (hk c hc).ft

/-- a tree with a foot put into it -/
inductive Foot (f : Str) : Tre → Tre → Prop where
  | here {n : Str} {tk : Option (Str × Bool)} {a b : List Tre} : Foot f (.knot n tk (a ++ b)) (.knot n tk (a ++ .foot f :: b))
  | deep {n : Str} {tk : Option (Str × Bool)} {a b : List Tre} {c c' : Tre} : Foot f c c' → Foot f (.knot n tk (a ++ c :: b)) (.knot n tk (a ++ c' :: b))
theorem depthL_append : ∀ a b : List Tre, depthL (a ++ b) = max (depthL a) (depthL b)
  | [], b => by simp [depthL]
  | t :: r, b => by rw [List.cons_append, depthL, depthL, depthL_append r b]; omega
theorem Foot.knot {f : Str} {t t' : Tre} (h : Foot f t t') : ∃ n tk ks ks', t = .knot n tk ks ∧ t' = .knot n tk ks' := by
  cases h with
  | here => exact ⟨_, _, _, _, rfl, rfl⟩
  | deep _ => exact ⟨_, _, _, _, rfl, rfl⟩
theorem Foot.lab {f : Str} {t t' : Tre} (h : Foot f t t') : lab t' = lab t := by
  obtain ⟨n, tk, ks, ks', rfl, rfl⟩ := h.knot
  rfl
theorem Foot.want {f : Str} {t t' : Tre} (h : Foot f t t') : want t' = want t := by
  obtain ⟨n, tk, ks, ks', rfl, rfl⟩ := h.knot
  cases tk with
  | none => rfl
  | some x => rfl
theorem Foot.cnt {f : Str} {t t' : Tre} (h : Foot f t t') : cnt t' = cnt t + 1 := by
  induction h with
  | here =>
    rw [cnt_knot, cnt_knot, List.map_append, List.map_append, List.map_cons, List.sum_append, List.sum_append, List.sum_cons]
    have : G.cnt (.foot f) = 1 := by simp [G.cnt, places]
    omega
  | deep _ ih =>
    rw [cnt_knot, cnt_knot, List.map_append, List.map_append, List.map_cons, List.map_cons, List.sum_append, List.sum_append, List.sum_cons, List.sum_cons, ih]
    omega
theorem Foot.depth {f : Str} {t t' : Tre} (h : Foot f t t') : depth t' ≤ depth t + 1 := by
  induction h with
  | here =>
    rw [G.depth, G.depth, depthL_append, depthL_append, depthL]
    have : G.depth (.foot f) = 1 := by simp [G.depth]
    omega
  | deep _ ih =>
    rw [G.depth, G.depth, depthL_append, depthL_append, depthL, depthL]
    omega
theorem Foot.feet {f : Str} {t t' : Tre} (h : Foot f t t') (e : feet t = []) : feet t' = [f] := by
  induction h with
  | @here n tk a b =>
    rw [feet_knot, List.flatMap_append] at e
    rw [feet_knot, List.flatMap_append, List.flatMap_cons]
    have h1 : a.flatMap G.feet = [] := (List.append_eq_nil_iff.mp e).1
    have h2 : b.flatMap G.feet = [] := (List.append_eq_nil_iff.mp e).2
    have h3 : G.feet (.foot f) = [f] := by simp [G.feet, subs_all, footN]
    rw [h1, h2, h3]
    rfl
  | @deep n tk a b c c' _ ih =>
    rw [feet_knot, List.flatMap_append, List.flatMap_cons] at e
    rw [feet_knot, List.flatMap_append, List.flatMap_cons]
    have h1 : a.flatMap G.feet = [] := (List.append_eq_nil_iff.mp e).1
    have h2 := (List.append_eq_nil_iff.mp (List.append_eq_nil_iff.mp e).2)
    rw [h1, ih h2.1, h2.2]
    rfl
theorem Foot.must {f : Str} {t t' : Tre} (h : Foot f t t') (m : MustOk t) : MustOk t' := by
  induction h with
  | @here n tk a b =>
    obtain ⟨h0, h1⟩ := allP_knot.mp m
    refine allP_knot.mpr ⟨fun g n' b e => h0 g n' b (by cases tk <;> exact e), fun c hc => ?_⟩
    rcases List.mem_append.mp hc with hc | hc
    · exact h1 c (List.mem_append_left _ hc)
    · rcases List.mem_cons.mp hc with e | hc
      · subst e; exact allP_leaf (fun _ _ _ => by simp) (fun g n b e => by simp [G.want] at e)
      · exact h1 c (List.mem_append_right _ hc)
  | @deep n tk a b c c' _ ih =>
    obtain ⟨h0, h1⟩ := allP_knot.mp m
    refine allP_knot.mpr ⟨fun g n' b e => h0 g n' b (by cases tk <;> exact e), fun d hd => ?_⟩
    rcases List.mem_append.mp hd with hd | hd
    · exact h1 d (List.mem_append_left _ hd)
    · rcases List.mem_cons.mp hd with e | hd
      · subst e; exact ih (h1 c (List.mem_append_right _ List.mem_cons_self))
      · exact h1 d (List.mem_append_right _ (List.mem_cons_of_mem _ hd))

/-! ### trees of a book -/
structure TreeOk (t : Tre) : Prop where
  kn : ∃ n tk ks, t = .knot n tk ks
  nm : Nm (lab t)
  fn : ∀ n ∈ feet t, Nm n
  ft : (feet t).length ≤ 1
  cn : cnt t ≤ 29
  dep : depth t ≤ 5
  mu : MustOk t
/-- a drawn tree, without its foot -/
theorem drawn_ok {n : Str} {tk : Option (Str × Bool)} {ks : List Tre} (hn : Nm n) (hm : MustNm (.knot n tk ks)) (h3 : ks.length ≤ 3) (hk : ∀ c ∈ ks, KidOk 2 c) (hs : (ks.map cnt).sum ≤ 27) : TreeOk (.knot n tk ks) ∧ feet (.knot n tk ks) = [] ∧ cnt (.knot n tk ks) ≤ 28 ∧ depth (.knot n tk ks) ≤ 4 := by
  have hf : feet (.knot n tk ks) = [] := by rw [feet_knot]; exact feet_nil fun c hc => (hk c hc).ft
  have hc : cnt (.knot n tk ks) ≤ 28 := by rw [cnt_knot]; omega
  have hd : depth (.knot n tk ks) ≤ 4 := by
    rw [depth]
    have := depthL_le (ks := ks) (d := 3) fun c hc => (hk c hc).dep
    omega
  exact ⟨⟨⟨_, _, _, rfl⟩, hn, (by rw [hf]; simp), by rw [hf]; simp, by omega, by omega, allP_knot.mpr ⟨hm, fun c hc => (hk c hc).mu⟩⟩, hf, hc, hd⟩
theorem footed_ok {f : Str} {t t' : Tre} (h : Foot f t t') (hfn : Nm f) (hn : Nm (lab t)) (hf : feet t = []) (hc : cnt t ≤ 28) (hd : depth t ≤ 4) (hm : MustOk t) : TreeOk t' := by
  obtain ⟨n, tk, ks, ks', e, e'⟩ := h.knot
  exact ⟨⟨n, tk, ks', e'⟩, by rw [h.lab]; exact hn, (by rw [h.feet hf]; simpa using hfn), by rw [h.feet hf]; simp, by rw [h.cnt]; omega, by have := h.depth; omega, h.must hm⟩

theorem called_eq {t : Tre} (h : (feet t).length ≤ 1) : called t = (isGraft t, nameOf t) := by
  unfold called isGraft nameOf
  match hf : feet t with
  | [] => rfl
  | [n] => rfl
  | a :: b :: r => rw [hf] at h; simp at h
theorem called_nm {t : Tre} (h : TreeOk t) : Nm (called t).2 := by
  unfold called
  match hf : feet t with
  | [] => exact h.nm
  | a :: r => exact h.fn a (by rw [hf]; exact List.mem_cons_self)
theorem called_start {t : Tre} (h : (called t).1 = false) : (called t).2 = lab t := by
  unfold called at *
  match hf : feet t with
  | [] => rfl
  | a :: r => rw [hf] at h; simp at h

abbrev Trees := List (Str × Tre)
/-- the tree of a key: the last one -/
def treeOf (ts : Trees) (key : Str) : Option Tre := ts.foldl (fun o kt => if kt.1 = key then some kt.2 else o) none
theorem treeOf_foldl (key : Str) : ∀ (ts : Trees) (o : Option Tre), ts.foldl (fun o kt => if kt.1 = key then some kt.2 else o) o = some x → (o = some x ∨ (key, x) ∈ ts)
  | [], o, h => .inl h
  | kt :: r, o, h => by
    rw [List.foldl_cons] at h
    rcases treeOf_foldl key r _ h with h | h
    · split at h
      · rename_i e
        refine .inr ?_
        obtain ⟨k, t⟩ := kt
        cases h
        exact e ▸ List.mem_cons_self
      · exact .inl h
    · exact .inr (List.mem_cons_of_mem _ h)
theorem treeOf_mem {ts : Trees} {key : Str} {t : Tre} (h : treeOf ts key = some t) : (key, t) ∈ ts := by
  rcases treeOf_foldl key ts none h with h | h
  · cases h
  · exact h
theorem treeOf_some_aux (key : Str) : ∀ (ts : Trees) (o : Option Tre), (o.isSome = true ∨ ∃ t, (key, t) ∈ ts) → ∃ t, ts.foldl (fun o kt => if kt.1 = key then some kt.2 else o) o = some t
  | [], o, h => by
    rcases h with h | ⟨t, h⟩
    · exact Option.isSome_iff_exists.mp h
    · cases h
  | kt :: r, o, h => by
    rw [List.foldl_cons]
    refine treeOf_some_aux key r _ ?_
    by_cases e : kt.1 = key
    · exact .inl (by rw [if_pos e]; rfl)
    · rw [if_neg e]
      rcases h with h | ⟨t, h⟩
      · exact .inl h
      · rcases List.mem_cons.mp h with q | h
        · exact absurd (by rw [← q]) e
        · exact .inr ⟨t, h⟩
theorem treeOf_some {ts : Trees} {key : Str} {t : Tre} (h : (key, t) ∈ ts) : ∃ t', treeOf ts key = some t' := treeOf_some_aux key ts none (.inr ⟨t, h⟩)

/-- the six keys that every book has -/
def baseKeys : List Str := ["s", "x0", "keytree", "g", "h1", "graftofaone"]
structure TreesOk (ts : Trees) : Prop where
  len : ts.length ≤ 11
  ok : ∀ k t, (k, t) ∈ ts → TreeOk t
  base : ∀ k t, (k, t) ∈ ts → k ∈ baseKeys → ∀ s ∈ subs t, want s = none
  has : ∀ g n, Nm n → ∃ k t, k ∈ baseKeys ∧ (k, t) ∈ ts ∧ called t = (g, n)
def takersBy (ts : Trees) (w : Option (Bool × Str × Bool)) : List Str := match w with
  | none => []
  | some (g, n, _) => (ts.filter fun kt => decide (called kt.2 = (g, n))).map (·.1)
def takers (ts : Trees) (pc : Tre) : List Str := takersBy ts (want pc)
theorem takers_mem {ts : Trees} {pc : Tre} {k : Str} (h : k ∈ takers ts pc) : ∃ t, (k, t) ∈ ts := by
  unfold takers takersBy at h
  split at h
  · cases h
  · obtain ⟨kt, hkt, e⟩ := List.mem_map.mp h
    exact ⟨kt.2, by rw [← e]; exact (List.mem_filter.mp hkt).1⟩
theorem takers_none {ts : Trees} {pc : Tre} (h : want pc = none) : takers ts pc = [] := by
  unfold takers takersBy
  rw [h]
def based (ks : List Str) : List Str := ks.filter fun k => decide (k ∈ baseKeys)
theorem based_has {ts : Trees} (ok : TreesOk ts) {pc : Tre} {g : Bool} {n : Str} {b : Bool} (h : want pc = some (g, n, b)) (hn : Nm n) : based (takers ts pc) ≠ [] := by
  obtain ⟨k, t, hk, hm, hc⟩ := ok.has g n hn
  refine List.ne_nil_of_mem (a := k) (List.mem_filter.mpr ⟨?_, decide_eq_true hk⟩)
  unfold takers takersBy
  rw [h]
  exact List.mem_map.mpr ⟨(k, t), List.mem_filter.mpr ⟨hm, decide_eq_true hc⟩, rfl⟩

/-! ### plans -/
inductive Plan where
  | mk (key : Str) (puts : List (List Nat × Plan))
def Plan.key : Plan → Str
  | .mk k _ => k
def Plan.puts : Plan → List (List Nat × Plan)
  | .mk _ p => p
mutual
def size : Plan → Nat
  | .mk _ ps => 1 + sizeL ps
def sizeL : List (List Nat × Plan) → Nat
  | [] => 0
  | (_, p) :: r => size p + sizeL r
end
mutual
def within : Plan → List Plan
  | .mk k ps => .mk k ps :: withinL ps
def withinL : List (List Nat × Plan) → List Plan
  | [] => []
  | (_, p) :: r => within p ++ withinL r
end
mutual
theorem within_len : ∀ p : Plan, (within p).length = size p
  | .mk k ps => by rw [within, size, List.length_cons, withinL_len ps]; omega
theorem withinL_len : ∀ ps : List (List Nat × Plan), (withinL ps).length = sizeL ps
  | [] => rfl
  | (_, p) :: r => by rw [withinL, sizeL, List.length_append, within_len p, withinL_len r]
end
theorem sizeL_sum : ∀ ps : List (List Nat × Plan), sizeL ps = (ps.map fun x => size x.2).sum
  | [] => rfl
  | (_, p) :: r => by rw [sizeL, sizeL_sum r, List.map_cons, List.sum_cons]
theorem withinL_flat : ∀ ps : List (List Nat × Plan), withinL ps = ps.flatMap fun x => within x.2
  | [] => rfl
  | (_, p) :: r => by rw [withinL, withinL_flat r, List.flatMap_cons]

inductive PlanOk (ts : Trees) : Nat → Plan → Prop where
  | mk {n : Nat} {key : Str} {puts : List (List Nat × Plan)} {t : Tre} : treeOf ts key = some t → (puts.map (·.1)).Sublist (places t) →
      (∀ x ∈ puts, x.2.key ∈ takers ts (get t x.1)) → (∀ q ∈ places t, ∀ g m, want (get t q) = some (g, m, true) → q ∈ puts.map (·.1)) → (∀ x ∈ puts, PlanOk ts n x.2) → PlanOk ts (n + 1) (.mk key puts)
theorem PlanOk.up {ts : Trees} {n : Nat} {p : Plan} (h : PlanOk ts n p) : PlanOk ts (n + 1) p := by
  induction h with
  | mk h1 h2 h3 h4 h5 ih => exact .mk h1 h2 h3 h4 ih
theorem PlanOk.le {ts : Trees} {n m : Nat} {p : Plan} (h : PlanOk ts n p) (hl : n ≤ m) : PlanOk ts m p := by
  induction hl with
  | refl => exact h
  | step _ ih => exact ih.up
theorem PlanOk.tree {ts : Trees} {n : Nat} {p : Plan} (h : PlanOk ts n p) : ∃ t, treeOf ts p.key = some t := by
  cases h with
  | mk h1 => exact ⟨_, h1⟩
theorem PlanOk.within {ts : Trees} {n : Nat} {p : Plan} (h : PlanOk ts n p) : ∀ q ∈ within p, PlanOk ts n q := by
  induction h with
  | @mk n key puts t h1 h2 h3 h4 h5 ih =>
    intro q hq
    rw [G.within] at hq
    rcases List.mem_cons.mp hq with e | hq
    · subst e; exact .mk h1 h2 h3 h4 h5
    · rw [withinL_flat] at hq
      obtain ⟨x, hx, hq⟩ := List.mem_flatMap.mp hq
      exact (ih x hx q hq).up
/-- how large a plan is -/
def capP : Nat → Nat
  | 0 => 0
  | n + 1 => 1 + 29 * capP n
theorem PlanOk.puts {ts : Trees} (ok : TreesOk ts) {n : Nat} {p : Plan} (h : PlanOk ts n p) : p.puts.length ≤ 29 := by
  cases h with
  | mk h1 h2 h3 h4 h5 =>
    have a := h2.length_le
    rw [List.length_map] at a
    have b := (ok.ok _ _ (treeOf_mem h1)).cn
    exact Nat.le_trans a b
theorem PlanOk.size {ts : Trees} (ok : TreesOk ts) {n : Nat} {p : Plan} (h : PlanOk ts n p) : size p ≤ capP n := by
  induction h with
  | @mk n key puts t h1 h2 h3 h4 h5 ih =>
    rw [G.size, capP, sizeL_sum]
    have hl : puts.length ≤ 29 := (PlanOk.mk h1 h2 h3 h4 h5).puts ok
    have key : ∀ l : List (List Nat × Plan), (∀ x ∈ l, G.size x.2 ≤ capP n) → (l.map fun x => G.size x.2).sum ≤ l.length * capP n := by
      intro l
      induction l with
      | nil => intro _; simp
      | cons x r ihr =>
        intro hx
        have a := hx x List.mem_cons_self
        have b := ihr fun y hy => hx y (List.mem_cons_of_mem _ hy)
        rw [List.map_cons, List.sum_cons, List.length_cons, Nat.succ_mul]
        omega
    have a := key puts ih
    have b : puts.length * capP n ≤ 29 * capP n := Nat.mul_le_mul_right _ hl
    omega
theorem capP5 : capP 5 = 732541 := by decide
theorem capP_mono {n m : Nat} (h : n ≤ m) : capP n ≤ capP m := by
  have step : ∀ n, capP n ≤ capP (n + 1) := by
    intro n
    rw [capP]; omega
  induction h with
  | refl => exact Nat.le_refl _
  | step _ ih => exact Nat.le_trans ih (step _)
end G
set_option Elab.async false
set_option linter.all false
set_option maxRecDepth 100000
set_option maxHeartbeats 4000000
/-! rules that the layer has not: tuple(list) that stands locked, dict(tuple of pairs), enumerate(tuple) -/
namespace L2.Gs
open PySem PySem.Spec PyProof.Rows
section
variable {X : Cx}
/-- tuple(l): the new tuple's own object is known to have no dict -/
theorem call_tupF : CallR X (.type "tuple") (fun xs H Q => ∃ p ys, xs = [.ref p] ∧ SqL X.K H p ys ∧ ∀ l o, H l = none → o.dict = none → Q (.ref l) (upd H l (.frz o (.tup ys)))) := by
  intro pins s σ H xs us Q I r h
  obtain ⟨p, ys, rfl, hq, q⟩ := h
  obtain ⟨u, rfl, rx⟩ := vals1 r
  cases rx
  obtain ⟨its, r', pl, hz⟩ := I.list hq
  have hlen := r'.length
  refine call_tuple_list pl.isList (fun h' kp => ?_) (by simp only [List.size_toArray] <;> omega)
  have I1 : Inv X pins σ H { s with heap := h' } := I.kept (t' := s.toks) kp
  have I2 : Inv X pins σ (upd H h'.objs.size (.frz { cls := .type "tuple", data := .seq its.toArray } (.tup ys))) { s with heap := h'.push { cls := .type "tuple", data := .seq its.toArray } } :=
    I1.laid (t' := s.toks) (fun b o e => Heap.get?_push_of_some _ e) (Nat.le_refl _) (show ObjOk X.prog X.w _ _ _ (.frz _ (.tup ys)) from ⟨Heap.get?_push_size _ rfl, hz, its, r', IsTup.new _ _⟩)
  exact ⟨.ref h'.objs.size, _, I2, rfl, q _ _ (I1.hok.fresh (Nat.le_refl _)) rfl⟩

/-- the pairs of a tuple, keys that are ints and texts -/
theorem pairsK {pins : List (Addr × Obj)} {σ : St} {H : Hp} {s : Shared} (I : Inv X pins σ H s) : ∀ {ps : List Addr} {kvs : List (Key × V)}, Paired (fun p kv => SqT X.K H p [kV kv.1, kv.2]) ps kvs →
    ∃ (us : List (Value × Value)) (rs : List (Key × Value)), KV kvs rs ∧ us.length = ps.length ∧ rs.length = ps.length ∧
      ∀ (j : Nat) (k v : Value), us[j]? = some (k, v) → ∃ (b : Addr) (q : Key), ps[j]? = some b ∧ IsTup s.heap b #[k, v] ∧ rs[j]? = some (q, v) ∧ keyIs q k = true
  | _, _, .nil => ⟨[], [], .nil, rfl, rfl, fun j k v e => by simp at e⟩
  | _, _, .cons (a := p) (b := kv) h t => by
    obtain ⟨us, rs, r, hl, hl2, hp⟩ := pairsK I t
    obtain ⟨its, rv, ht, _⟩ := I.tuple h
    obtain ⟨u, y, ei, ru, ry⟩ := vals2 rv
    subst ei
    refine ⟨(u, y) :: us, (kv.1, y) :: rs, .cons ⟨rfl, ry⟩ r, by rw [List.length_cons, List.length_cons, hl], by rw [List.length_cons, List.length_cons, hl2], fun j k v e => ?_⟩
    cases j with
    | zero =>
      have e' : (u, y) = (k, v) := Option.some.inj e
      cases e'
      exact ⟨p, kv.1, rfl, ht, rfl, kV_is (P := X.prog) (w := X.w) ru⟩
    | succ j =>
      obtain ⟨b, q, e1, e2, e3, e4⟩ := hp j k v (by simpa using e)
      exact ⟨b, q, by simpa using e1, e2, by simpa using e3, e4⟩
/-- .. keys that are tuples -/
theorem pairsT {pins : List (Addr × Obj)} {σ : St} {H : Hp} {s : Shared} (I : Inv X pins σ H s) : ∀ {ps : List Addr} {kvs : List (List Key × V)}, Paired (fun p kv => ∃ b, SqT X.K H p [.ref b, kv.2] ∧ H b = some (.tup (kv.1.map kV))) ps kvs →
    ∃ (us : List (Value × Value)) (rs : List (List Key × Addr × Value)), KT H kvs rs ∧ us.length = ps.length ∧ rs.length = ps.length ∧
      ∀ (j : Nat) (k v : Value), us[j]? = some (k, v) → ∃ (b : Addr) (q : List Key) (c : Addr), ps[j]? = some b ∧ IsTup s.heap b #[k, v] ∧ rs[j]? = some (q, c, v) ∧ k = .ref c
  | _, _, .nil => ⟨[], [], .nil, rfl, rfl, fun j k v e => by simp at e⟩
  | _, _, .cons (a := p) (b := kv) h t => by
    obtain ⟨us, rs, r, hl, hl2, hp⟩ := pairsT I t
    obtain ⟨c, h, hc⟩ := h
    obtain ⟨its, rv, ht, _⟩ := I.tuple h
    obtain ⟨u, y, ei, ru, ry⟩ := vals2 rv
    subst ei
    cases ru
    refine ⟨(.ref c, y) :: us, (kv.1, c, y) :: rs, .cons ⟨rfl, hc, ry⟩ r, by rw [List.length_cons, List.length_cons, hl], by rw [List.length_cons, List.length_cons, hl2], fun j k v e => ?_⟩
    cases j with
    | zero =>
      have e' : (Value.ref c, y) = (k, v) := Option.some.inj e
      cases e'
      exact ⟨p, kv.1, c, rfl, ht, rfl, rfl⟩
    | succ j =>
      obtain ⟨b, q, c', e1, e2, e3, e4⟩ := hp j k v (by simpa using e)
      exact ⟨b, q, c', by simpa using e1, e2, by simpa using e3, e4⟩
theorem items_pairs {h : Heap} {ps : List Addr} {us : List (Value × Value)} (hl : us.length = ps.length) (hp : ∀ (j : Nat) (k v : Value), us[j]? = some (k, v) → ∃ b, ps[j]? = some b ∧ IsTup h b #[k, v]) :
    PairItems h (ps.map Value.ref).toArray (fun j => ps.getD j 0) us := by
  refine ⟨by simp [hl], fun j k v e => ?_⟩
  obtain ⟨b, e1, e2⟩ := hp j k v e
  have e3 : ps.getD j 0 = b := by rw [List.getD_eq_getElem?_getD, e1]; rfl
  show _ = some (Value.ref (ps.getD j 0)) ∧ PairAt h (ps.getD j 0) k v
  rw [e3]
  exact ⟨by simp [e1], .inl e2⟩
/-- dict(t) of a tuple of pairs, keys ints and texts: later pairs win -/
theorem call_dictF (hcalm : X.calm = true) : CallR X (.type "dict") (fun xs H Q => ∃ (a : Addr) (o : Obj) (ps : List Addr) (kvs : List (Key × V)), xs = [.ref a] ∧ H a = some (.frz o (.tup (ps.map V.ref))) ∧ o.dict = none ∧ Paired (fun p kv => SqT X.K H p [kV kv.1, kv.2]) ps kvs ∧
    ∀ p, H p = none → Q (.ref p) (upd H p (.dK (mergeK [] kvs)))) := by
  intro pins s σ H xs us Q I r q
  obtain ⟨a, o, ps, kvs, ex, ha, hdn, hp, q⟩ := q
  subst ex
  obtain ⟨u, eu, rx⟩ := vals1 r
  subst eu
  cases rx
  obtain ⟨ho, hz, its, rv, o', ho', hc, n, hdat⟩ := (show ObjOk X.prog X.w H s.heap a (.frz o (.tup (ps.map V.ref))) from I.hok a _ ha)
  rw [ho] at ho'; cases ho'
  have ei := refs_at rv
  subst ei
  rw [List.length_map] at hz
  obtain ⟨prs, rs, rel, hl, hl2, hpr⟩ := pairsK I hp
  have PI := items_pairs (h := s.heap) hl fun j k v e => let ⟨b, _, e1, e2, _⟩ := hpr j k v e; ⟨b, e1, e2⟩
  refine PySem.call_dict_pairs (K := Key) (kvs := rs) (knd := mixKind X.prog X.w) (PairArg.tuple a (ps.map Value.ref).toArray (fun j => ps.getD j 0) prs) (I.ok.hd hcalm) ⟨⟨o, n, ho, hc, hdn, hdat⟩, PI⟩ ⟨by rw [hl2, hl], fun j k v e => ?_⟩ (by rw [hl]; exact hz) fun h' tk hd' k => ?_
  · obtain ⟨b, q', _, _, e3, e4⟩ := hpr j k v e
    exact ⟨q', e3, e4⟩
  · have hm : (s.heap.objs.size == sysModules) = false := beq_eq_false_iff_ne.mpr (Nat.ne_of_gt I.big)
    have hlen : (mergeK [] kvs).length ≤ sizeLine := by
      refine Nat.le_trans (length_mergeK kvs []) ?_
      rw [List.length_nil, Nat.zero_add, rel.length, hl2]
      exact hz
    exact ⟨.ref s.heap.objs.size, upd H s.heap.objs.size (.dK (mergeK [] kvs)), I.laid (t' := tk) (fun b o' e => k b o' (fun z => nomatch z) e) (Nat.le_refl _) (show ObjOk X.prog X.w _ _ _ (.dK (mergeK [] kvs)) from ⟨hlen, hm, merged [] rs, KV.merge rel .nil, hd'⟩), rfl, q _ (I.hok.fresh (Nat.le_refl _))⟩

def mergeT (kvs more : List (List Key × V)) : List (List Key × V) := more.foldl (fun acc kv => putK acc kv.1 kv.2) kvs
theorem length_mergeT : ∀ (more kvs : List (List Key × V)), (mergeT kvs more).length ≤ kvs.length + more.length
  | [], _ => Nat.le_refl _
  | p :: r, kvs => by
    have h1 := length_mergeT r (putK kvs p.1 p.2)
    have h2 := length_putK kvs p.1 p.2
    show (mergeT (putK kvs p.1 p.2) r).length ≤ _
    rw [List.length_cons]; omega
theorem KT.mergeT {H : Hp} : ∀ {more : List (List Key × V)} {rs : List (List Key × Addr × Value)} {kvs : List (List Key × V)} {vs : List (List Key × Addr × Value)}, KT H more rs → KT H kvs vs → KT H (Gs.mergeT kvs more) (storedAllH vs rs)
  | _, _, _, _, .nil, h => h
  | _, _, kvs, vs, .cons (a := p) (b := q) (l₁ := l1) (l₂ := l2) h t, r => by
    obtain ⟨h1, h2, h3⟩ := h
    have r2 := L2.KT.put r p.1 h2 h3
    have e : storedAllH vs (q :: l2) = storedAllH (storedH vs q.1 q.2.1 q.2.2) l2 := rfl
    rw [e, ← h1]
    show KT H (Gs.mergeT (putK kvs p.1 p.2) l1) _
    exact KT.mergeT t r2
/-- dict(t) of a tuple of pairs, keys tuples of ints and texts -/
theorem call_dictFT (hcalm : X.calm = true) (hu : X.A.units + 64 < cLine) : CallR X (.type "dict") (fun xs H Q => ∃ (a : Addr) (o : Obj) (ps : List Addr) (kvs : List (List Key × V)), xs = [.ref a] ∧ H a = some (.frz o (.tup (ps.map V.ref))) ∧ o.dict = none ∧
    Paired (fun p kv => ∃ b, SqT X.K H p [.ref b, kv.2] ∧ H b = some (.tup (kv.1.map kV))) ps kvs ∧
    ∀ p, H p = none → Q (.ref p) (upd H p (.dT (mergeT [] kvs)))) := by
  intro pins s σ H xs us Q I r q
  obtain ⟨a, o, ps, kvs, ex, ha, hdn, hp, q⟩ := q
  subst ex
  obtain ⟨u, eu, rx⟩ := vals1 r
  subst eu
  cases rx
  obtain ⟨ho, hz, its, rv, o', ho', hc, n, hdat⟩ := (show ObjOk X.prog X.w H s.heap a (.frz o (.tup (ps.map V.ref))) from I.hok a _ ha)
  rw [ho] at ho'; cases ho'
  have ei := refs_at rv
  subst ei
  rw [List.length_map] at hz
  obtain ⟨prs, rs, rel, hl, hl2, hpr⟩ := pairsT I hp
  have PI := items_pairs (h := s.heap) hl fun j k v e => let ⟨b, _, _, e1, e2, _⟩ := hpr j k v e; ⟨b, e1, e2⟩
  have keys : ∀ {l : List (List Key × V)} {m : List (List Key × Addr × Value)}, KT H l m → ∀ x ∈ m, (tupleKind (mixKind X.prog X.w)).is s.heap x.1 x.2.1 := by
    intro l m q
    induction q with
    | nil => intro x hx; exact nomatch hx
    | @cons p q ps qs hq t ih =>
      intro x hx
      rcases List.mem_cons.mp hx with e | hx
      · subst e
        exact key_of I.hok (by rw [← hq.1]; exact hq.2.1)
      · exact ih x hx
  refine PySem.call_dict_pairsH (K := List Key) (ps := rs) (knd := tupleKind (mixKind X.prog X.w)) (PairArg.tuple a (ps.map Value.ref).toArray (fun j => ps.getD j 0) prs) (I.ok.hd hcalm) (by show X.A.in1.in1.units < cLine; exact Nat.lt_of_le_of_lt (Nat.le_of_eq rfl) (by show X.A.units + 1 + 1 < cLine; omega)) ⟨⟨o, n, ho, hc, hdn, hdat⟩, PI⟩ ⟨by rw [hl2, hl], fun j k v e => ?_⟩ ?_ (by rw [hl]; exact hz) fun h' tk hd' k => ?_
  · obtain ⟨b, q', c, _, _, e3, e4⟩ := hpr j k v e
    exact ⟨q', c, e3, e4⟩
  · intro h' hk x hx
    exact tupleKind_stays.all h' (fun b o _ e => hk b o (Nat.ne_of_lt (Heap.lt_size e)) (fun z => nomatch z) e) _ _ (keys rel x hx)
  · have hm : (s.heap.objs.size == sysModules) = false := beq_eq_false_iff_ne.mpr (Nat.ne_of_gt I.big)
    have hlen : (mergeT [] kvs).length ≤ sizeLine := by
      refine Nat.le_trans (length_mergeT kvs []) ?_
      rw [List.length_nil, Nat.zero_add, show kvs.length = rs.length from Paired.length rel, hl2]
      exact hz
    have fr : H s.heap.objs.size = none := I.hok.fresh (Nat.le_refl _)
    have kt : KT (upd H s.heap.objs.size (.dT (mergeT [] kvs))) (mergeT [] kvs) (storedAllH [] rs) := (KT.mergeT rel .nil).keeps fun b ys e => by rw [upd_ne (ne_of_none e fr)]; exact e
    obtain ⟨o2, es, ep, g1, g2, g3, g4, g5, g6⟩ := hd'
    exact ⟨.ref s.heap.objs.size, upd H s.heap.objs.size (.dT (mergeT [] kvs)), I.laid (t' := tk) (fun b o' e => k b o' (fun z => nomatch z) e) (Nat.le_refl _) (show ObjOk X.prog X.w _ _ _ (.dT (mergeT [] kvs)) from ⟨hlen, hm, _, kt, o2, es, ep, g1, g2, g3, g4, g6⟩), rfl, q _ fr⟩

/-! ### enumerate(tuple) -/
theorem meets_enum_tup (t : Addr) (items : Array Value) :
    Meets (Builtin.«enumerate.__new__» ⟨[.type "enumerate", .ref t], []⟩) (fun _ R s => s.heap.IsTuple t items ∧
      R (.ok (.ret (.ref (s.heap.push { cls := .type "tuple_iterator", data := .fields #[.ref t, .int 0 0] }).objs.size)))
        { s with heap := (s.heap.push { cls := .type "tuple_iterator", data := .fields #[.ref t, .int 0 0] }).push { cls := .type "enumerate", data := .fields #[.none, .bool false, .ref s.heap.objs.size, rawInt 0, .none, .none] } }) :=
  .of_wp fun prog w A R s h => by
    obtain ⟨hp, g, d, tk, os⟩ := s
    obtain ⟨hl, h⟩ := h
    have hsub := sub_enumerate
    have go : ∀ {A' : Around} {E : Value → Shared → Prop} {Q : Value → Shared → Prop}, Q (.ref hp.objs.size) ⟨hp.push { cls := .type "tuple_iterator", data := .fields #[.ref t, .int 0 0] }, g, d, tk, os⟩ → wpAny (model prog w) A' (pyIter (.ref t)) Q E ⟨hp, g, d, tk, os⟩ :=
      fun q => wpAny_pyIter_tuple (s := ⟨hp, g, d, tk, os⟩) hl q
    wp_walk using go
    refine wpAny_stack_any fun st => wpAny_pure ?_
    split
    · rename_i c _ _ _ _ _
      cases (c == Value.type "enumerate")
      · wp_walk using go
        exact ⟨_, rfl, h⟩
      · wp_walk using go
        exact ⟨_, rfl, h⟩
    · wp_walk using go
      exact ⟨_, rfl, h⟩
theorem call_enum_tup {prog : Program} {w : World} {A : Around} {E : Value → Shared → Prop} {s : Shared} {t : Addr} {items : Array Value} {Q : Value → Shared → Prop} (hL : s.heap.IsTuple t items)
    (h : ∀ h', IsEnum h' (s.heap.objs.size + 1) s.heap.objs.size 0 .none → h'.IsTupleIter s.heap.objs.size t 0 → (∀ b o, s.heap.get? b = some o → h'.get? b = some o) → Q (.ref (s.heap.objs.size + 1)) { s with heap := h' }) :
    wpAny (model prog w) A (call (.type "enumerate") [.ref t]) Q E s := by
  refine callType_new PySem.F.called_enumerate (by decide) (PySem.F.typeCall_enumerate_1 _) (PySem.F.newCall_enumerate_1 _) (fun obj => PySem.F.args_object_init_2 obj _) PySem.F.entry_enumerate_new (meets_enum_tup t items) ⟨hL, ?_⟩
  have hz : (s.heap.push { cls := .type "tuple_iterator", data := .fields #[.ref t, .int 0 0] }).objs.size = s.heap.objs.size + 1 := Heap.size_push ..
  show _ ∧ _
  rw [hz]
  have he : IsEnum ((s.heap.push { cls := .type "tuple_iterator", data := .fields #[.ref t, .int 0 0] }).push { cls := .type "enumerate", data := .fields #[.none, .bool false, .ref s.heap.objs.size, rawInt 0, .none, .none] }) (s.heap.objs.size + 1) s.heap.objs.size 0 .none := by
    have e := Heap.get?_push_size (s.heap.push { cls := .type "tuple_iterator", data := .fields #[.ref t, .int 0 0] }) (o := { cls := .type "enumerate", data := .fields #[.none, .bool false, .ref s.heap.objs.size, rawInt 0, .none, .none] }) rfl
    rw [hz] at e
    exact e
  exact ⟨⟨_, he, rfl⟩, h _ he ⟨_, Heap.get?_push_of_some _ (Heap.get?_push_size _ rfl), rfl, rfl⟩ fun b o x => Heap.get?_push_of_some _ (Heap.get?_push_of_some _ x)⟩
/-- the tuple at a, each item in a new pair with its number -/
def IteT (K : PySem.W.Frag) (a : Addr) : It :=
  ⟨fun i H => ∃ (xs : List V) (x : V), SqT K H a xs ∧ xs[i]? = some x, fun i H v H' => ∃ T x, v = .ref T ∧ H T = none ∧ H' = upd H T (.tup [.int (i : Nat), x]) ∧ ∀ xs, SqT K H a xs → xs[i]? = some x, fun i H => ∃ xs : List V, SqT K H a xs ∧ xs.length ≤ i⟩
theorem turn_enumT {P : Program} {w : World} {K : PySem.W.Frag} {elts : List Expr} {kk : Nat} {tpos : Pos} (a e it : Addr) :
    Turn P w K (.Tuple elts kk tpos) (IteT K a) [e, it] e (fun i h => (∃ old, IsEnum h e it ((i : Nat) : Int) old) ∧ h.IsTupleIter it a i ∧ e ≠ it) where
  mem := by simp
  obj := fun i h st b hb => by
    obtain ⟨⟨old, he⟩, ⟨o, ho, hc, hd⟩, _⟩ := st
    have e' : b = e ∨ b = it := by simpa using hb
    rcases e' with z | z
    · rw [z]; exact ⟨_, he, fun v q => nomatch q⟩
    · rw [z]; exact ⟨o, ho, fun v q => by rw [hd] at q; cases q⟩
  keep := fun i h h' st k => let ⟨⟨old, he⟩, hi, hne⟩ := st; ⟨⟨old, k e (by simp) _ he⟩, hi.at fun o q => k it (by simp) o q, hne⟩
  item := by
    intro X hP hw hK hc i pins s σ H E I hf st hg
    subst hP hw hK
    obtain ⟨⟨old, he⟩, hit, hne⟩ := st
    obtain ⟨xs, x, hq, hx⟩ := hg
    obtain ⟨its, rv, p, hz⟩ := I.tuple hq
    obtain ⟨u, hu, ru⟩ := rv.get hx
    have hel : e < s.heap.objs.size := Heap.lt_size he
    have hil : it < s.heap.objs.size := by obtain ⟨_, q, _⟩ := hit; exact Heap.lt_size q
    have hal : a < s.heap.objs.size := p.lt
    have hai : a ≠ it := by
      rintro rfl
      obtain ⟨o1, e1, _, d1⟩ := hit
      obtain ⟨o2, e2, _, n2, d2⟩ := p
      rw [e1] at e2; cases e2; rw [d1] at d2; cases d2
    have hae : a ≠ e := by
      rintro rfl
      obtain ⟨o2, e2, _, n2, d2⟩ := p
      have e1 : s.heap.get? a = some _ := he
      rw [e1] at e2; cases e2; cases d2
    have hil' : i < its.toArray.size := by
      have := (List.getElem?_eq_some_iff.mp hx).1
      have := rv.length
      simp; omega
    refine wpAny_pyNext_enum_itemC (Draws.tuple (A := X.A.in1) (I.ok.hd hc) it a hai its.toArray) (c := ((i : Nat) : Int)) he ⟨hit, p⟩ hil' hne (by simp [hne, Ne.symm hae]) fun x' h' tk hP ho hit' hT hsz hk => ?_
    have ex : x' = u := by
      have e1 : its.toArray[i]? = some x' := hP
      rw [show its.toArray[i]? = some u by simpa using hu] at e1
      exact (Option.some.inj e1).symm
    subst ex
    refine ⟨_, rfl, wpAny_letOwnedTupleGo_enum (s := { s with heap := h', toks := tk + 1 }) ho fun h'' he' sb => ?_⟩
    have hT2 : h''.get? s.heap.objs.size = some { cls := .type "tuple", data := .seq #[.int i tk, x'] } := (sb.2 _ (Nat.ne_of_gt hel)).trans hT
    have new : ObjOk X.prog X.w (upd H s.heap.objs.size (.tup [.int (i : Nat), x])) h'' s.heap.objs.size (.tup [.int (i : Nat), x]) :=
      ⟨by show 2 ≤ sizeLine; decide, [.int i tk, x'], .cons ⟨_, rfl⟩ (.cons ru .nil), ⟨_, hT2, rfl, _, rfl⟩⟩
    have I1 : Inv X pins σ (upd H s.heap.objs.size (.tup [.int (i : Nat), x])) { s with heap := h'', toks := tk + 1 } :=
      I.turnedNew (ch := [e, it]) (fun b ob hb q => (sb.2 b (fun z => hb (by simp [z]))).trans (hk b ob (fun z => hb (by simp [z])) (fun z => hb (by simp [z])) q)) hf (Nat.le_refl _) new
    refine ⟨.ref s.heap.objs.size, _, I1, rfl, ⟨_, x, rfl, I.hok.fresh (Nat.le_refl _), rfl, fun ys hy => by rw [I.tuple_inj hy hq]; exact hx⟩, ⟨⟨x', ?_⟩, hit'.1.at fun o q => (sb.2 it (Ne.symm hne)).trans q, hne⟩, fun b hb => ?_⟩
    · have e1 : ((i + 1 : Nat) : Int) = (i : Int) + 1 := by omega
      rw [e1]; exact he'
    · have hb' : b < s.heap.objs.size := by
        have e' : b = e ∨ b = it := by simpa using hb
        rcases e' with z | z
        · rw [z]; exact hel
        · rw [z]; exact hil
      rw [upd_ne (Nat.ne_of_lt hb')]
      exact (hf b hb).1
  done := by
    intro X hP hw hK hc i pins s σ H E I hf st hg
    subst hP hw hK
    obtain ⟨⟨old, he⟩, hit, hne⟩ := st
    obtain ⟨xs, hq, hx⟩ := hg
    obtain ⟨its, rv, p, hz⟩ := I.tuple hq
    obtain ⟨f0, f1, f2, f3, f4, f5⟩ := hf it (by simp)
    have hl := rv.length
    have hai : a ≠ it := by
      rintro rfl
      obtain ⟨o1, e1, _, d1⟩ := hit
      obtain ⟨o2, e2, _, n2, d2⟩ := p
      rw [e1] at e2; cases e2; rw [d1] at d2; cases d2
    have D0 := Draws.tuple (prog := X.prog) (w := X.w) (A := X.A.in1) (I.ok.hd hc) it a hai its.toArray
    have D : Draws X.prog X.w X.A.in1 it [it, a] 0 (fun _ _ => False) (fun j h => j = 0 ∧ h.IsTupleIter it a i ∧ h.IsTuple a its.toArray) :=
      ⟨fun _ _ st => let ⟨o, ho, _⟩ := st.2.1; ⟨o, ho⟩, fun _ _ _ st hk => ⟨st.1, st.2.1.at fun o e => hk it (by simp) o e, st.2.2.at fun o e => hk a (by simp) o e⟩, fun _ _ _ _ hi => absurd hi (Nat.not_lt_zero _),
        fun s Q E st hE => wpAny_nextOf_tuple_end (I.ok.hd hc) st.2.1 st.2.2 (by simp; omega) hE⟩
    exact wpAny_pyNext_enum_endD D (i := ((i : Nat) : Int)) he ⟨rfl, hit, p⟩ fun h' eb => ⟨rfl, I.turned (t' := s.toks) (fun b o hb q => eb b o hb q) f0 f1 f3 f4 f5⟩
  self := fun A i s Q E st h => let ⟨⟨_, he⟩, _⟩ := st; wpAny_pyIter_enum he h
def iEnumT (K : PySem.W.Frag) (ta : TA) : TI := fun σ H R => ta σ H fun vs H1 => ∃ a xs, vs = [.ref a] ∧ SqT K H1 a xs ∧ R (IteT K a) H1
theorem pi_enumT {e : Expr} {ta : TA} {p pos tpos : Pos} {elts : List Expr} {kk : Nat} (hg : Gl X "enumerate") (hm : X.mg "enumerate" = none) (ha : PA X [e] ta) (hs : starEach [e] X.env = [(false, eval e X.env)] := by rfl) :
    PI X (.Tuple elts kk tpos) (.Call (.Name "enumerate" p) [e] [] pos) (iEnumT X.K ta) := by
  refine ⟨fun pins s σ H R I h => ?_⟩
  refine Call_ (ld_blt I hg hm boot_enumerate (PyProof.Rows.callWith_type1 (thn (ha.run pos pins s σ H _ I h) fun us s1 ⟨vs, H1, I1, r1, q1⟩ => ?_) hs rfl))
  obtain ⟨a, xs, ex, hq, q⟩ := q1
  subst ex
  cases r1 with
  | cons r rr =>
    cases rr
    cases r
    obtain ⟨its, rv, p', hz⟩ := I1.tuple hq
    refine call_enum_tup (show s1.heap.IsTuple a its.toArray from p') fun h' he hit hk => wpAny_pyIter_enum he ?_
    have I2 : Inv X pins σ H1 { s1 with heap := h' } := I1.kept (t' := s1.toks) hk
    refine ⟨s1.heap.objs.size + 1, [s1.heap.objs.size + 1, s1.heap.objs.size], _, _, H1, rfl, I2, turn_enumT a (s1.heap.objs.size + 1) s1.heap.objs.size, ⟨⟨.none, he⟩, hit, Nat.succ_ne_self _⟩, fun b hb => ?_, q⟩
    have e' : b = s1.heap.objs.size + 1 ∨ b = s1.heap.objs.size := by simpa using hb
    have hle : s1.heap.objs.size ≤ b := by
      rcases e' with z | z
      · rw [z]; exact Nat.le_add_right _ _
      · rw [z]; exact Nat.le_refl _
    exact I1.fpOk hle (I1.hok.fresh hle)
theorem walk_enumT {K : PySem.W.Frag} {a : Addr} {xs : List V} : Walk (IteT K a) xs.length (fun H => SqT K H a xs) (YPair (fun i => some (.int (i : Nat))) (fun i => xs[i]?)) := by
  refine ⟨fun i _ hi q => ⟨xs, xs[i], q, by simp [hi]⟩, fun _ q => ⟨xs, q, Nat.le_refl _⟩, fun i H v H' _ q y => ?_⟩
  obtain ⟨T, x, h1, h2, h3, h4⟩ := y
  exact ⟨T, .int (i : Nat), x, h1, h2, h3, rfl, h4 xs q⟩
end
end L2.Gs
set_option Elab.async false
set_option linter.all false
set_option maxRecDepth 100000
set_option maxHeartbeats 4000000
/-! data in the heap: tuples of tuples, ints, texts -/
namespace L2.Gs
open PySem PySem.Spec PyProof.Rows
open _root_.G (Tre Plan Trees)

inductive D where
  | non
  | bl (b : Bool)
  | int (i : Int)
  | str (s : Str)
  | tup (ds : List D)
  | ftup (ds : List D)
mutual
def Rp (H : Hp) : D → V → Prop
  | .non, v => v = .non
  | .bl b, v => v = .bl b
  | .int i, v => v = .int i
  | .str s, v => v = .str s
  | .tup ds, v => ∃ a vs, v = .ref a ∧ H a = some (.tup vs) ∧ RpL H ds vs
  | .ftup ds, v => ∃ a vs o, v = .ref a ∧ H a = some (.frz o (.tup vs)) ∧ o.dict = none ∧ RpL H ds vs
def RpL (H : Hp) : List D → List V → Prop
  | [], vs => vs = []
  | d :: ds, vs => ∃ v r, vs = v :: r ∧ Rp H d v ∧ RpL H ds r
end
/-- the tuples stand -/
structure TM (H H' : Hp) : Prop where
  t : ∀ b xs, H b = some (.tup xs) → H' b = some (.tup xs)
  f : ∀ b o xs, H b = some (.frz o (.tup xs)) → H' b = some (.frz o (.tup xs))
theorem TM.refl (H : Hp) : TM H H := ⟨fun _ _ h => h, fun _ _ _ h => h⟩
theorem TM.trans {H H1 H2 : Hp} (a : TM H H1) (b : TM H1 H2) : TM H H2 := ⟨fun c xs h => b.t c xs (a.t c xs h), fun c o xs h => b.f c o xs (a.f c o xs h)⟩
theorem TM.of {H H' : Hp} (s : Same H H') : TM H H' := ⟨fun b xs h => s b _ h, fun b o xs h => s b _ h⟩
/-- what stands at a is no tuple -/
def NoT (H : Hp) (a : Addr) : Prop := (∀ xs, H a ≠ some (.tup xs)) ∧ ∀ o xs, H a ≠ some (.frz o (.tup xs))
theorem NoT.none {H : Hp} {a : Addr} (h : H a = none) : NoT H a := ⟨fun xs e => (by rw [h] at e; cases e), fun o xs e => (by rw [h] at e; cases e)⟩
theorem NoT.lst {H : Hp} {a : Addr} {xs : List V} (h : H a = some (.lst xs)) : NoT H a := ⟨fun xs e => (by rw [h] at e; cases e), fun o xs e => (by rw [h] at e; cases e)⟩
theorem NoT.dK {H : Hp} {a : Addr} {xs : List (Key × V)} (h : H a = some (.dK xs)) : NoT H a := ⟨fun xs e => (by rw [h] at e; cases e), fun o xs e => (by rw [h] at e; cases e)⟩
theorem NoT.dT {H : Hp} {a : Addr} {xs : List (List Key × V)} (h : H a = some (.dT xs)) : NoT H a := ⟨fun xs e => (by rw [h] at e; cases e), fun o xs e => (by rw [h] at e; cases e)⟩
theorem NoT.fdT {H : Hp} {a : Addr} {o : Obj} {xs : List (List Key × V)} (h : H a = some (.frz o (.dT xs))) : NoT H a := ⟨fun xs e => (by rw [h] at e; cases e), fun o xs e => (by rw [h] at e; cases e)⟩
theorem TM.upd {H : Hp} {a : Addr} {o : HO} (n : NoT H a) : TM H (upd H a o) :=
  ⟨fun b xs h => (by rw [upd_ne (fun (e : b = a) => n.1 xs (by rw [← e]; exact h))]; exact h), fun b ob xs h => (by rw [upd_ne (fun (e : b = a) => n.2 ob xs (by rw [← e]; exact h))]; exact h)⟩
mutual
theorem Rp.mono {H H' : Hp} (m : TM H H') : ∀ (d : D) (v : V), Rp H d v → Rp H' d v
  | .non, v, h => by rw [Rp] at h ⊢; exact h
  | .bl b, v, h => by rw [Rp] at h ⊢; exact h
  | .int i, v, h => by rw [Rp] at h ⊢; exact h
  | .str s, v, h => by rw [Rp] at h ⊢; exact h
  | .tup ds, v, h => by
    rw [Rp] at h ⊢
    obtain ⟨a, vs, e, ha, hl⟩ := h
    exact ⟨a, vs, e, m.t _ _ ha, RpL.mono m ds vs hl⟩
  | .ftup ds, v, h => by
    rw [Rp] at h ⊢
    obtain ⟨a, vs, o, e, ha, hd, hl⟩ := h
    exact ⟨a, vs, o, e, m.f _ _ _ ha, hd, RpL.mono m ds vs hl⟩
theorem RpL.mono {H H' : Hp} (m : TM H H') : ∀ (ds : List D) (vs : List V), RpL H ds vs → RpL H' ds vs
  | [], vs, h => by rw [RpL] at h ⊢; exact h
  | d :: ds, vs, h => by
    rw [RpL] at h ⊢
    obtain ⟨v, r, e, h1, h2⟩ := h
    exact ⟨v, r, e, Rp.mono m d v h1, RpL.mono m ds r h2⟩
end
theorem Rp.up {H H' : Hp} {d : D} {v : V} (h : Rp H d v) (m : TM H H') : Rp H' d v := Rp.mono m d v h
theorem RpL.up {H H' : Hp} {d : List D} {v : List V} (h : RpL H d v) (m : TM H H') : RpL H' d v := RpL.mono m d v h
theorem rp_int {H : Hp} {i : Int} : Rp H (.int i) (.int i) := by rw [Rp]
theorem rp_str {H : Hp} {s : Str} : Rp H (.str s) (.str s) := by rw [Rp]
theorem rp_bl {H : Hp} {b : Bool} : Rp H (.bl b) (.bl b) := by rw [Rp]
theorem rp_non {H : Hp} : Rp H .non .non := by rw [Rp]
theorem rp_tup {H : Hp} {a : Addr} {vs : List V} {ds : List D} (h : H a = some (.tup vs)) (r : RpL H ds vs) : Rp H (.tup ds) (.ref a) := by rw [Rp]; exact ⟨a, vs, rfl, h, r⟩
theorem rp_ftup {H : Hp} {a : Addr} {vs : List V} {ds : List D} {o : Obj} (h : H a = some (.frz o (.tup vs))) (hd : o.dict = none) (r : RpL H ds vs) : Rp H (.ftup ds) (.ref a) := by rw [Rp]; exact ⟨a, vs, o, rfl, h, hd, r⟩
theorem rl_nil {H : Hp} : RpL H [] [] := by rw [RpL]
theorem rl_cons {H : Hp} {d : D} {ds : List D} {v : V} {vs : List V} (h : Rp H d v) (r : RpL H ds vs) : RpL H (d :: ds) (v :: vs) := by rw [RpL]; exact ⟨v, vs, rfl, h, r⟩
theorem rl_one {H : Hp} {d : D} {v : V} (h : Rp H d v) : RpL H [d] [v] := rl_cons h rl_nil
theorem un_int {H : Hp} {i : Int} {v : V} (h : Rp H (.int i) v) : v = .int i := by rw [Rp] at h; exact h
theorem un_str {H : Hp} {i : Str} {v : V} (h : Rp H (.str i) v) : v = .str i := by rw [Rp] at h; exact h
theorem un_bl {H : Hp} {i : Bool} {v : V} (h : Rp H (.bl i) v) : v = .bl i := by rw [Rp] at h; exact h
theorem un_non {H : Hp} {v : V} (h : Rp H .non v) : v = .non := by rw [Rp] at h; exact h
theorem un_tup {H : Hp} {ds : List D} {v : V} (h : Rp H (.tup ds) v) : ∃ a vs, v = .ref a ∧ H a = some (.tup vs) ∧ RpL H ds vs := by rw [Rp] at h; exact h
theorem un_ftup {H : Hp} {ds : List D} {v : V} (h : Rp H (.ftup ds) v) : ∃ a vs o, v = .ref a ∧ H a = some (.frz o (.tup vs)) ∧ o.dict = none ∧ RpL H ds vs := by rw [Rp] at h; exact h
theorem ul_nil {H : Hp} {vs : List V} (h : RpL H [] vs) : vs = [] := by rw [RpL] at h; exact h
theorem ul_cons {H : Hp} {d : D} {ds : List D} {vs : List V} (h : RpL H (d :: ds) vs) : ∃ v r, vs = v :: r ∧ Rp H d v ∧ RpL H ds r := by rw [RpL] at h; exact h
theorem RpL.len {H : Hp} : ∀ {ds : List D} {vs : List V}, RpL H ds vs → vs.length = ds.length
  | [], vs, h => by rw [ul_nil h]; rfl
  | d :: ds, vs, h => by
    obtain ⟨v, r, rfl, _, h2⟩ := ul_cons h
    rw [List.length_cons, List.length_cons, RpL.len h2]
theorem RpL.get {H : Hp} : ∀ {ds : List D} {vs : List V} {i : Nat} {v : V}, RpL H ds vs → vs[i]? = some v → ∃ d, ds[i]? = some d ∧ Rp H d v
  | [], vs, i, v, h, e => by rw [ul_nil h] at e; simp at e
  | d :: ds, vs, i, v, h, e => by
    obtain ⟨u, r, rfl, h1, h2⟩ := ul_cons h
    cases i with
    | zero => simp at e; subst e; exact ⟨d, rfl, h1⟩
    | succ i => simp at e; obtain ⟨d', a, b⟩ := RpL.get h2 e; exact ⟨d', by simpa using a, b⟩
theorem RpL.at {H : Hp} : ∀ {ds : List D} {vs : List V} {i : Nat} {d : D}, RpL H ds vs → ds[i]? = some d → ∃ v, vs[i]? = some v ∧ Rp H d v
  | [], vs, i, v, h, e => by simp at e
  | d :: ds, vs, i, v, h, e => by
    obtain ⟨u, r, rfl, h1, h2⟩ := ul_cons h
    cases i with
    | zero => simp at e; subst e; exact ⟨u, rfl, h1⟩
    | succ i => simp at e; obtain ⟨d', a, b⟩ := RpL.at h2 e; exact ⟨d', by simpa using a, b⟩
theorem RpL.app {H : Hp} : ∀ {ds es : List D} {vs ws : List V}, RpL H ds vs → RpL H es ws → RpL H (ds ++ es) (vs ++ ws)
  | [], es, vs, ws, h, h' => by rw [ul_nil h]; exact h'
  | d :: ds, es, vs, ws, h, h' => by
    obtain ⟨v, r, rfl, h1, h2⟩ := ul_cons h
    exact rl_cons h1 (RpL.app h2 h')
theorem RpL.take {H : Hp} : ∀ {ds : List D} {vs : List V} (n : Nat), RpL H ds vs → RpL H (ds.take n) (vs.take n)
  | _, _, 0, _ => by simp; exact rl_nil
  | [], vs, n + 1, h => by rw [ul_nil h]; simp; exact rl_nil
  | d :: ds, vs, n + 1, h => by
    obtain ⟨v, r, rfl, h1, h2⟩ := ul_cons h
    exact rl_cons h1 (RpL.take n h2)
theorem RpL.drop {H : Hp} : ∀ {ds : List D} {vs : List V} (n : Nat), RpL H ds vs → RpL H (ds.drop n) (vs.drop n)
  | _, _, 0, h => h
  | [], vs, n + 1, h => by rw [ul_nil h]; simp; exact rl_nil
  | d :: ds, vs, n + 1, h => by
    obtain ⟨v, r, rfl, h1, h2⟩ := ul_cons h
    exact RpL.drop n h2
/-- a list of such data -/
def Ls (H : Hp) (l : Addr) (ds : List D) : Prop := ∃ vs, H l = some (.lst vs) ∧ RpL H ds vs
theorem Ls.same {H H' : Hp} {l : Addr} {ds : List D} (h : Ls H l ds) (s : Same H H') : Ls H' l ds := let ⟨vs, a, b⟩ := h; ⟨vs, s _ _ a, b.up (.of s)⟩
theorem Ls.up {H H' : Hp} {l : Addr} {ds : List D} (h : Ls H l ds) (m : TM H H') (e : H' l = H l) : Ls H' l ds := let ⟨vs, a, b⟩ := h; ⟨vs, e.trans a, b.up m⟩
/-- one more item -/
theorem Ls.push {H : Hp} {l : Addr} {ds : List D} {d : D} {v : V} {vs : List V} (h : H l = some (.lst vs)) (r : RpL H ds vs) (hv : Rp H d v) : Ls (upd H l (.lst (vs ++ [v]))) l (ds ++ [d]) :=
  ⟨_, upd_same, (r.app (rl_one hv)).up (.upd (.lst h))⟩
theorem sUpd {H0 H : Hp} {l : Addr} {o : HO} (s : Same H0 H) (n : H0 l = none) : Same H0 (upd H l o) := fun b u e => by rw [upd_ne (ne_of_none e n)]; exact s b u e
theorem sNew {H : Hp} {l : Addr} {o : HO} (n : H l = none) : Same H (upd H l o) := sUpd (Same.refl H) n
theorem iteT' {c : Bool} {A B : Prop} (hc : c = true) (h : A) : if c = true then A else B := by rw [if_pos hc]; exact h
theorem iteF' {c : Bool} {A B : Prop} (hc : c = false) (h : B) : if c = true then A else B := by rw [if_neg (by rw [hc]; exact Bool.false_ne_true)]; exact h
theorem strD (a b : Str) : decide (V.str a = V.str b) = decide (a = b) := by
  by_cases e : a = b
  · subst e; simp
  · rw [decide_eq_false e, decide_eq_false fun z => e (V.str.inj z)]
theorem blD (a b : Bool) : decide (V.bl a = V.bl b) = decide (a = b) := by
  by_cases e : a = b
  · subst e; simp
  · rw [decide_eq_false e, decide_eq_false fun z => e (V.bl.inj z)]
theorem intD (a b : Int) : decide (V.int a = V.int b) = decide (a = b) := by
  by_cases e : a = b
  · subst e; simp
  · rw [decide_eq_false e, decide_eq_false fun z => e (V.int.inj z)]
theorem SqT.fz {K : PySem.W.Frag} {H : Hp} {a : Addr} {o : Obj} {xs : List V} (h : H a = some (.frz o (.tup xs))) : SqT K H a xs := .inl (.inr ⟨o, h⟩)

/-! ### trees, places, plans as data -/
def encTk : Option (Str × Bool) → D
  | none => .non
  | some (m, b) => .tup [.str m, .bl b]
mutual
def encT : Tre → D
  | .sign s => .tup [.str "sign", .str s]
  | .void => .tup [.str "void"]
  | .hole n => .tup [.str "hole", .str n]
  | .foot n => .tup [.str "foot", .str n]
  | .knot n tk ks => .tup [.str "knot", .str n, encTk tk, .tup (encTs ks)]
def encTs : List Tre → List D
  | [] => []
  | t :: r => encT t :: encTs r
end
theorem encTs_map : ∀ ks : List Tre, encTs ks = ks.map encT
  | [] => by rw [encTs]; rfl
  | t :: r => by rw [encTs, encTs_map r]; rfl
def encP (q : List Nat) : D := .tup (q.map fun k => .int (k : Nat))
def encPc (x : List Nat × Tre) : D := .tup [encP x.1, encT x.2]
def encKT (x : Str × Tre) : D := .tup [.str x.1, encT x.2]
def encB (top : Str) (ts : Trees) : D := .tup [.str top, .ftup (ts.map encKT)]
mutual
def encPl : Plan → D
  | .mk k ps => .tup [.str k, .ftup (encPs ps)]
def encPs : List (List Nat × Plan) → List D
  | [] => []
  | (q, p) :: r => .tup [encP q, encPl p] :: encPs r
end
def encPut (x : List Nat × Plan) : D := .tup [encP x.1, encPl x.2]
theorem encPs_map : ∀ ps : List (List Nat × Plan), encPs ps = ps.map encPut
  | [] => by rw [encPs]; rfl
  | (q, p) :: r => by rw [encPs, encPs_map r]; rfl
theorem encPl_eq (k : Str) (ps : List (List Nat × Plan)) : encPl (.mk k ps) = .tup [.str k, .ftup (ps.map encPut)] := by rw [encPl, encPs_map]
theorem encPl_pl (p : Plan) : encPl p = .tup [.str p.key, .ftup (p.puts.map encPut)] := by cases p; rw [encPl_eq]; rfl

section
variable {H : Hp} {v : V}
theorem un_tup1 {a : D} (h : Rp H (.tup [a]) v) : ∃ p x, v = .ref p ∧ H p = some (.tup [x]) ∧ Rp H a x := by
  obtain ⟨p, vs, rfl, hp, hl⟩ := un_tup h
  obtain ⟨x, r, rfl, hx, hl⟩ := ul_cons hl
  rw [ul_nil hl] at hp
  exact ⟨p, x, rfl, hp, hx⟩
theorem un_tup2 {a b : D} (h : Rp H (.tup [a, b]) v) : ∃ p x y, v = .ref p ∧ H p = some (.tup [x, y]) ∧ Rp H a x ∧ Rp H b y := by
  obtain ⟨p, vs, rfl, hp, hl⟩ := un_tup h
  obtain ⟨x, r, rfl, hx, hl⟩ := ul_cons hl
  obtain ⟨y, r, rfl, hy, hl⟩ := ul_cons hl
  rw [ul_nil hl] at hp
  exact ⟨p, x, y, rfl, hp, hx, hy⟩
theorem un_tup4 {a b c d : D} (h : Rp H (.tup [a, b, c, d]) v) : ∃ p x y z w, v = .ref p ∧ H p = some (.tup [x, y, z, w]) ∧ Rp H a x ∧ Rp H b y ∧ Rp H c z ∧ Rp H d w := by
  obtain ⟨p, vs, rfl, hp, hl⟩ := un_tup h
  obtain ⟨x, r, rfl, hx, hl⟩ := ul_cons hl
  obtain ⟨y, r, rfl, hy, hl⟩ := ul_cons hl
  obtain ⟨z, r, rfl, hz, hl⟩ := ul_cons hl
  obtain ⟨w, r, rfl, hw, hl⟩ := ul_cons hl
  rw [ul_nil hl] at hp
  exact ⟨p, x, y, z, w, rfl, hp, hx, hy, hz, hw⟩
theorem un_sign {s : Str} (h : Rp H (encT (.sign s)) v) : ∃ p, v = .ref p ∧ H p = some (.tup [.str "sign", .str s]) := by
  rw [encT] at h
  obtain ⟨p, x, y, rfl, hp, hx, hy⟩ := un_tup2 h
  rw [un_str hx, un_str hy] at hp
  exact ⟨p, rfl, hp⟩
theorem un_void (h : Rp H (encT .void) v) : ∃ p, v = .ref p ∧ H p = some (.tup [.str "void"]) := by
  rw [encT] at h
  obtain ⟨p, x, rfl, hp, hx⟩ := un_tup1 h
  rw [un_str hx] at hp
  exact ⟨p, rfl, hp⟩
theorem un_hole {s : Str} (h : Rp H (encT (.hole s)) v) : ∃ p, v = .ref p ∧ H p = some (.tup [.str "hole", .str s]) := by
  rw [encT] at h
  obtain ⟨p, x, y, rfl, hp, hx, hy⟩ := un_tup2 h
  rw [un_str hx, un_str hy] at hp
  exact ⟨p, rfl, hp⟩
theorem un_foot {s : Str} (h : Rp H (encT (.foot s)) v) : ∃ p, v = .ref p ∧ H p = some (.tup [.str "foot", .str s]) := by
  rw [encT] at h
  obtain ⟨p, x, y, rfl, hp, hx, hy⟩ := un_tup2 h
  rw [un_str hx, un_str hy] at hp
  exact ⟨p, rfl, hp⟩
theorem un_knot {n : Str} {tk : Option (Str × Bool)} {ks : List Tre} (h : Rp H (encT (.knot n tk ks)) v) :
    ∃ p tv ka kvs, v = .ref p ∧ H p = some (.tup [.str "knot", .str n, tv, .ref ka]) ∧ Rp H (encTk tk) tv ∧ H ka = some (.tup kvs) ∧ RpL H (encTs ks) kvs := by
  rw [encT] at h
  obtain ⟨p, x, y, z, w, rfl, hp, hx, hy, hz, hw⟩ := un_tup4 h
  obtain ⟨ka, kvs, rfl, hk, hl⟩ := un_tup hw
  rw [un_str hx, un_str hy] at hp
  exact ⟨p, z, ka, kvs, rfl, hp, hz, hk, hl⟩
/-- the word of a piece -/
def tag : Tre → Str
  | .sign _ => "sign"
  | .void => "void"
  | .hole _ => "hole"
  | .foot _ => "foot"
  | .knot _ _ _ => "knot"
theorem un_tag {t : Tre} (h : Rp H (encT t) v) : ∃ p r, v = .ref p ∧ H p = some (.tup (.str (tag t) :: r)) := by
  cases t with
  | sign s => obtain ⟨p, rfl, hp⟩ := un_sign h; exact ⟨p, _, rfl, hp⟩
  | void => obtain ⟨p, rfl, hp⟩ := un_void h; exact ⟨p, _, rfl, hp⟩
  | hole s => obtain ⟨p, rfl, hp⟩ := un_hole h; exact ⟨p, _, rfl, hp⟩
  | foot s => obtain ⟨p, rfl, hp⟩ := un_foot h; exact ⟨p, _, rfl, hp⟩
  | knot n tk ks => obtain ⟨p, tv, ka, kvs, rfl, hp, _⟩ := un_knot h; exact ⟨p, _, rfl, hp⟩
end
end L2.Gs
set_option Elab.async false
set_option linter.all false
set_option maxRecDepth 100000
set_option maxHeartbeats 4000000
/-! the text by places; a def that may be called -/
namespace L2.Gs
open PySem PySem.Spec PyProof.Rows

def topS (i : Nat) : Stmt := PySem.Challenge.pw_graftsay_k12_whole_plans_and_sizes.main.body.getD i (.Pass ⟨0, 0, 0, 0⟩)
abbrev sKids : Stmt := topS 4
abbrev sPlaces : Stmt := topS 5
abbrev sPiece : Stmt := topS 6
abbrev sFeet : Stmt := topS 8
abbrev sGraft : Stmt := topS 9
abbrev sName : Stmt := topS 10
abbrev sTreeOf : Stmt := topS 11
abbrev sWanted : Stmt := topS 13
abbrev sTakers : Stmt := topS 14
abbrev sNumbers : Stmt := topS 15
abbrev sPuts : Stmt := topS 16
abbrev sWell : Stmt := topS 17
abbrev sIsPlan : Stmt := topS 18
abbrev sWhole : Stmt := topS 19
abbrev sSize : Stmt := topS 20
abbrev sCell : Stmt := topS 22
abbrev sKid : Stmt := topS 23
abbrev sFooted : Stmt := topS 24
abbrev sDrawn : Stmt := topS 25
abbrev sBook : Stmt := topS 26
abbrev sPieces : Stmt := topS 27
abbrev sCalled : Stmt := topS 28
abbrev sLTakers : Stmt := topS 29
abbrev sPlan : Stmt := topS 30
abbrev sWithin : Stmt := topS 31
abbrev sLaw : Stmt := topS 32

/-- a def of the module that keeps a promise -/
structure Cal (P : Program) (w : World) (K : PySem.W.Frag) (mg : Str → Option Value) (base : Heap) (x : Str) (k : Nat) (ps : List Str) (sp : Sp) : Prop where
  ex : ∃ f fd, FnOk P w K mg base CX0 k f fd ps sp ∧ Binds K fd ps [] ∧ PySem.W.keepIn K (.ref f) = true ∧ mg x = some (.ref f)
theorem pe_cal {X : Cx} {x : Str} {k : Nat} {ps : List Str} {sp : Sp} {e : Expr} {es : List Expr} {p pos : Pos} {t : TA} (C : Cal X.prog X.w X.K X.mg X.base x k ps sp) (hr : Room k X.A) (ha : PA X (e :: es) t) (hg : Gl X x := by rfl)
    (hdb : (x == ("__debug__" : Str)) = false := by decide) (he : starEach (e :: es) X.env = (false, eval e X.env) :: starEach es X.env := by rfl) (hpl : (backTo pos (starEach es X.env)).any (·.1) = false := by rfl) : PE X (.Call (.Name x p) (e :: es) [] pos) (tCall sp [] E0 t) := by
  obtain ⟨f, fd, F, b, kp, m⟩ := C.ex
  exact pe_call F hr hg m kp b .nil pass0 ha hdb he hpl
/-- a def that is asked nothing keeps any promise -/
theorem fn_never {P : Program} {w : World} {K : PySem.W.Frag} {mg : Str → Option Value} {base : Heap} {f : Addr} {fd : FuncData} {k : Nat} {ps : List Str} {sp : Sp} (no : ∀ vs H Q E, ¬ sp vs H Q E) : FnOk P w K mg base CX0 k f fd ps sp :=
  ⟨fun vs H Q E h => absurd h (no vs H Q E), fun A outer s H args us vs Q E _ _ _ _ h => absurd h (no vs H Q E)⟩
/-- a def's standing: its text, how its arguments bind, its name -/
structure Std (K : PySem.W.Frag) (mg : Str → Option Value) (x : Str) (st : Stmt) (ps : List Str) (f : Addr) (fd : FuncData) : Prop where
  fn : Fun K x x st f fd
  bd : Binds K fd ps []
  mg : mg x = some (.ref f)
theorem Std.cal {P : Program} {w : World} {K : PySem.W.Frag} {mg : Str → Option Value} {base : Heap} {x : Str} {st : Stmt} {ps : List Str} {f : Addr} {fd : FuncData} {k : Nat} {sp : Sp} (S : Std K mg x st ps f fd) (h : FnOk P w K mg base CX0 k f fd ps sp) : Cal P w K mg base x k ps sp := ⟨f, fd, h, S.bd, S.fn.kp, S.mg⟩
end L2.Gs
set_option Elab.async false
set_option linter.all false
set_option maxRecDepth 100000
set_option maxHeartbeats 4000000
/-! rules by data -/
namespace L2.Gs
open PySem PySem.Spec PyProof.Rows
open _root_.G (Tre Plan Trees)
theorem at0 {α : Type} {x : α} {r : List α} : atI (x :: r) 0 = some x := atI_nat (j := 0) rfl
theorem atI_len {α β : Type} {xs : List α} {ys : List β} {i : Int} {d : α} (h : atI xs i = some d) (e : ys.length = xs.length) : ∃ j : Nat, xs[j]? = some d ∧ ∀ v, ys[j]? = some v → atI ys i = some v := by
  unfold atI at h ⊢
  rw [e]
  cases q : ixN xs.length i with
  | none => rw [q] at h; cases h
  | some j => rw [q] at h; exact ⟨j, h, fun v hv => hv⟩
theorem RpL.atI {H : Hp} {ds : List D} {vs : List V} {i : Int} {d : D} (r : RpL H ds vs) (h : L2.atI ds i = some d) : ∃ v, L2.atI vs i = some v ∧ Rp H d v := by
  obtain ⟨j, h1, h2⟩ := atI_len h r.len
  obtain ⟨v, a, b⟩ := r.at h1
  exact ⟨v, h2 v a, b⟩
/-- a tuple of data, plain or known -/
def TupOf (H : Hp) (ds : List D) (x : V) : Prop := Rp H (.tup ds) x ∨ Rp H (.ftup ds) x
theorem TupOf.seq {K : PySem.W.Frag} {H : Hp} {ds : List D} {x : V} (h : TupOf H ds x) : ∃ p vs, x = .ref p ∧ SqT K H p vs ∧ RpL H ds vs := by
  rcases h with h | h
  · obtain ⟨p, vs, e, hp, hl⟩ := un_tup h
    exact ⟨p, vs, e, SqT.of hp, hl⟩
  · obtain ⟨p, vs, o, e, hp, _, hl⟩ := un_ftup h
    exact ⟨p, vs, e, SqT.fz hp, hl⟩
section
variable {X : Cx} {es : List Expr} {pos : Pos} {t : TA}
/-- t[i] -/
def rIxD : R2 := fun x y H Q => ∃ ds i d, TupOf H ds x ∧ y = .int i ∧ L2.atI ds i = some d ∧ ∀ v, Rp H d v → Q v H
theorem ix_D : IxR X rIxD := by
  intro value slice pins s σ H x y v u Q I rx ry h hs
  obtain ⟨ds, i, d, hx, ey, hi, q⟩ := h
  obtain ⟨p, vs, e, hp, hl⟩ := hx.seq (K := X.K)
  obtain ⟨z, a, b⟩ := hl.atI hi
  exact ix_tup value slice pins s σ H x y v u Q I rx ry ⟨p, vs, i, z, e, ey, hp, a, q z b⟩ hs
/-- l[i] -/
def rIxLD : R2 := fun x y H Q => ∃ l ds i d, x = .ref l ∧ Ls H l ds ∧ y = .int i ∧ L2.atI ds i = some d ∧ ∀ v, Rp H d v → Q v H
theorem ix_LD : IxR X rIxLD := by
  intro value slice pins s σ H x y v u Q I rx ry h hs
  obtain ⟨l, ds, i, d, e, ⟨vs, hx, hl⟩, ey, hi, q⟩ := h
  obtain ⟨z, a, b⟩ := hl.atI hi
  exact ix_list value slice pins s σ H x y v u Q I rx ry ⟨l, vs, i, z, e, ey, SqL.of hx, a, q z b⟩ hs
/-- t + u -/
def rCatD : R2 := fun x y H Q => ∃ ds es, Rp H (.tup ds) x ∧ Rp H (.tup es) y ∧ ds.length + es.length ≤ sizeLine ∧ ∀ r H', Same H H' → Rp H' (.tup (ds ++ es)) r → Q r H'
theorem op_catD : OpR X (binaryOp .Add) rCatD := by
  intro pins s σ H x y v u Q I rx ry h
  obtain ⟨ds, es, hx, hy, hz, q⟩ := h
  obtain ⟨a, xs, e1, ha, h1⟩ := un_tup hx
  obtain ⟨b, ys, e2, hb, h2⟩ := un_tup hy
  refine op_catA pins s σ H x y v u Q I rx ry ⟨a, b, xs, ys, e1, e2, SqT.of ha, SqT.of hb, by rw [h1.len, h2.len]; exact hz, fun e => ?_, fun _ e => ?_, fun _ _ p hp => ?_⟩
  · have z : ds = [] := by
      have := h1.len
      rw [e] at this
      exact List.eq_nil_of_length_eq_zero this.symm
    refine q _ _ (Same.refl _) ?_
    rw [z, List.nil_append]
    exact rp_tup hb h2
  · have z : es = [] := by
      have := h2.len
      rw [e] at this
      exact List.eq_nil_of_length_eq_zero this.symm
    refine q _ _ (Same.refl _) ?_
    rw [z, List.append_nil]
    exact rp_tup ha h1
  · refine q _ _ (sNew hp) (rp_tup upd_same ((h1.app h2).up (.upd (.none hp))))
/-- t[lo:hi] -/
def cutD (xs : List D) (lo hi : Option Int) : List D := (xs.drop (HT.sIx xs.length 0 lo)).take (HT.sIx xs.length xs.length hi - HT.sIx xs.length 0 lo)
def rSlD : V → Option Int → Option Int → Hp → VK → Prop := fun x lo hi H Q => ∃ ds, Rp H (.tup ds) x ∧ ∀ r H', Same H H' → Rp H' (.tup (cutD ds lo hi)) r → Q r H'
theorem sl_D : SlR X rSlD := by
  intro pins s σ H x v vl vu lo hi sl Q I rx hs pl pu h
  obtain ⟨ds, hx, q⟩ := h
  obtain ⟨a, xs, e1, ha, h1⟩ := un_tup hx
  have hl := h1.len
  refine sl_tupA pins s σ H x v vl vu lo hi sl Q I rx hs pl pu ⟨a, xs, e1, SqT.of ha, fun ⟨z1, z2⟩ => ?_, fun _ p hp => ?_⟩
  · refine q _ _ (Same.refl _) ?_
    have e : cutD ds lo hi = ds := by
      unfold cutD
      rw [← hl, z1, z2]
      simp [hl]
    rw [e]
    exact rp_tup ha h1
  · refine q _ _ (sNew hp) (rp_tup upd_same ?_)
    unfold cutV cutD
    rw [← hl]
    exact ((h1.drop _).take _).up (.upd (.none hp))
/-- (a, b, ..) -/
def tTupD (t : TA) : TE := fun σ H Q => t σ H fun xs H1 => ∃ ds, RpL H1 ds xs ∧ ds.length ≤ 1000 ∧ ∀ r H', Same H1 H' → Rp H' (.tup ds) r → Q r H'
theorem pe_tupD {x1} (h : PA X es t) : PE X (.Tuple es x1 pos) (tTupD t) := by
  refine ⟨fun pins s σ H Q I hq => ?_⟩
  refine wpAny_Tuple_spliced (thn (h.run pos pins s σ H _ I hq) fun us s1 ⟨xs, H1, I1, r, ds, hl, z, q⟩ => ?_)
  have z' : xs.length ≤ sizeLine := by rw [hl.len]; exact Nat.le_trans z (by decide)
  refine ⟨by rw [← r.length]; exact z', ?_⟩
  have hf : H1 s1.heap.objs.size = none := I1.hok.fresh (Nat.le_refl _)
  refine ⟨.ref s1.heap.objs.size, upd H1 s1.heap.objs.size (.tup xs), I1.laid (t' := s1.toks) (fun b u e => Heap.get?_push_of_some _ e) (Nat.le_refl _) ?_, rfl, q _ _ (sNew hf) (rp_tup upd_same (hl.up (.upd (.none hf))))⟩
  exact ⟨z', us, r, ⟨_, Heap.get?_push_size _ rfl, rfl, _, rfl⟩⟩
/-- [a, b, ..] -/
def tLstD (t : TA) : TE := fun σ H Q => t σ H fun xs H1 => ∃ ds, RpL H1 ds xs ∧ ds.length ≤ 1000 ∧ ∀ l H', Same H1 H' → H1 l = none → Ls H' l ds → Q (.ref l) H'
theorem pe_lstD (h : PA X es t) : PE X (.List es pos) (tLstD t) := by
  refine ⟨fun pins s σ H Q I hq => ?_⟩
  refine wpAny_List_spliced (thn (h.run pos pins s σ H _ I hq) fun us s1 ⟨xs, H1, I1, r, ds, hl, z, q⟩ => ?_)
  have z' : xs.length ≤ sizeLine := by rw [hl.len]; exact Nat.le_trans z (by decide)
  refine ⟨by rw [← r.length]; exact z', ?_⟩
  have hf : H1 s1.heap.objs.size = none := I1.hok.fresh (Nat.le_refl _)
  refine ⟨.ref s1.heap.objs.size, upd H1 s1.heap.objs.size (.lst xs), I1.laid (t' := s1.toks) (fun b u e => Heap.get?_push_of_some _ e) (Nat.le_refl _) ?_, rfl, q _ _ (sNew hf) hf ⟨xs, upd_same, hl.up (.upd (.none hf))⟩⟩
  exact ⟨z', us, 0, r, Heap.get?_push_size _ rfl⟩
/-- tuple(l), a plain tuple -/
theorem call_tupD : CallR X (.type "tuple") (fun xs H Q => ∃ l ds, xs = [.ref l] ∧ Ls H l ds ∧ ∀ r H', Same H H' → Rp H' (.tup ds) r → Q r H') := by
  intro pins s σ H xs us Q I r h
  obtain ⟨l, ds, e, ⟨vs, hx, hl⟩, q⟩ := h
  exact call_tuple_of pins s σ H xs us Q I r ⟨l, vs, e, .inl ⟨SqL.of hx, fun p hp => q _ _ (sNew hp) (rp_tup upd_same (hl.up (.upd (.none hp))))⟩⟩
/-- tuple(l), a known tuple -/
theorem call_tupFD : CallR X (.type "tuple") (fun xs H Q => ∃ l ds, xs = [.ref l] ∧ Ls H l ds ∧ ∀ r H', Same H H' → Rp H' (.ftup ds) r → Q r H') := by
  intro pins s σ H xs us Q I r h
  obtain ⟨l, ds, e, ⟨vs, hx, hl⟩, q⟩ := h
  exact call_tupF pins s σ H xs us Q I r ⟨l, vs, e, SqL.of hx, fun p o hp ho => q _ _ (sNew hp) (rp_ftup upd_same ho (hl.up (.upd (.none hp))))⟩
/-- len of a tuple -/
theorem call_lenTD : CallR X (.builtin "len") (fun xs H Q => ∃ x ds, xs = [x] ∧ TupOf H ds x ∧ Q (.int (ds.length : Nat)) H) := by
  intro pins s σ H xs us Q I r h
  obtain ⟨x, ds, e, hx, q⟩ := h
  obtain ⟨p, vs, ex, hp, hl⟩ := hx.seq (K := X.K)
  subst ex
  refine call_len_seq pins s σ H xs us Q I r ⟨p, vs, e, .inr hp, ?_⟩
  rw [hl.len]
  exact q
/-- len of a list -/
theorem call_lenLD : CallR X (.builtin "len") (fun xs H Q => ∃ l ds, xs = [.ref l] ∧ Ls H l ds ∧ Q (.int (ds.length : Nat)) H) := by
  intro pins s σ H xs us Q I r h
  obtain ⟨l, ds, e, ⟨vs, hx, hl⟩, q⟩ := h
  refine call_len_seq pins s σ H xs us Q I r ⟨l, vs, e, .inl (SqL.of hx), ?_⟩
  rw [hl.len]
  exact q
end
/-! ### data as the library's -/
mutual
def toPy : D → PyData
  | .non => .none
  | .bl b => .bool b
  | .int i => .int i
  | .str s => .str s
  | .tup ds => .tuple (toPys ds)
  | .ftup ds => .tuple (toPys ds)
def toPys : List D → List PyData
  | [] => []
  | d :: ds => toPy d :: toPys ds
end
mutual
theorem Rp.dp {K : PySem.W.Frag} {H : Hp} : ∀ (d : D) (v : V), Rp H d v → Dp K H v (toPy d)
  | .non, v, h => by rw [un_non h, toPy]; exact .non
  | .bl b, v, h => by rw [un_bl h, toPy]; exact .bl b
  | .int i, v, h => by rw [un_int h, toPy]; exact .int i
  | .str s, v, h => by rw [un_str h, toPy]; exact .str s
  | .tup ds, v, h => by
    obtain ⟨p, vs, rfl, hp, hl⟩ := un_tup h
    rw [toPy]
    exact .tup (SqT.of hp) (RpL.dp ds vs hl)
  | .ftup ds, v, h => by
    obtain ⟨p, vs, o, rfl, hp, _, hl⟩ := un_ftup h
    rw [toPy]
    exact .tup (SqT.fz hp) (RpL.dp ds vs hl)
theorem RpL.dp {K : PySem.W.Frag} {H : Hp} : ∀ (ds : List D) (vs : List V), RpL H ds vs → DpAll K H vs (toPys ds)
  | [], vs, h => by rw [ul_nil h, toPys]; exact .nil
  | d :: ds, vs, h => by
    obtain ⟨v, r, rfl, h1, h2⟩ := ul_cons h
    rw [toPys]
    exact .cons (Rp.dp d v h1) (RpL.dp ds r h2)
end
end L2.Gs
set_option Elab.async false
set_option linter.all false
set_option maxRecDepth 100000
set_option maxHeartbeats 4000000
namespace L2.Gs
open PySem PySem.Spec PyProof.Rows
open _root_.G (Tre Plan Trees)
section
variable {P : Program} {w : World} {K : PySem.W.Frag} {mg : Str → Option Value} {base : Heap} {f : Addr} {fd : FuncData}

/-! ### kids_of -/
def spKids : Sp := fun vs H Q _ => ∃ (v : V) (t : Tre), vs = [v] ∧ Rp H (encT t) v ∧ ∀ r H', Same H H' → Rp H' (.tup (encTs (G.kids t))) r → Q r H'
theorem scKids : FnScope ["tree"] ["tree"] (defScope sKids) := ⟨rfl, rfl, rfl, by decide +kernel, rfl, by decide +kernel, by decide +kernel⟩
theorem tag_knot {t : Tre} : decide (tag t = "knot") = true → ∃ n tk ks, t = .knot n tk ks := by
  cases t with
  | knot n tk ks => intro _; exact ⟨n, tk, ks, rfl⟩
  | sign _ => intro h; exact absurd h (by show ¬ decide (("sign" : Str) = "knot") = true; decide +kernel)
  | void => intro h; exact absurd h (by show ¬ decide (("void" : Str) = "knot") = true; decide +kernel)
  | hole _ => intro h; exact absurd h (by show ¬ decide (("hole" : Str) = "knot") = true; decide +kernel)
  | foot _ => intro h; exact absurd h (by show ¬ decide (("foot" : Str) = "knot") = true; decide +kernel)
theorem ok_kids (F : Fun K "kids_of" "kids_of" sKids f fd) : FnOk P w K mg base CX0 1 f fd ["tree"] spKids := by
  refine F.ok scKids (fun vs H Q E h => ?_) (fun cdv A outer s H vs Q E hr h => ?_)
  · obtain ⟨v, t, rfl, _⟩ := h
    rfl
  obtain ⟨v, t, rfl, hv, q⟩ := h
  refine ⟨_, pss_one (ps_ret (pe_ifExp (pt_cmpR op_eq (pe_ix ix_tup (pv 0) pe_int (fun _ _ => rfl)) pe_str (nomark _)) (pe_ix ix_tup (pv 0) pe_int (fun _ _ => rfl)) (pe_tup pa_nil))), ?_⟩
  obtain ⟨p, r, rfl, hp⟩ := un_tag hv
  refine ⟨_, rfl, p, _, _, _, rfl, rfl, SqT.of hp, at0, rfl, _, rfl, ?_⟩
  refine ite2 (fun c => ?_) (fun c => ?_)
  · rw [strD] at c
    obtain ⟨n, tk, ks, rfl⟩ := tag_knot c
    obtain ⟨p', tv, ka, kvs, e, hp', htk, hka, hks⟩ := un_knot hv
    cases e
    exact ⟨_, rfl, p, _, _, _, rfl, rfl, SqT.of hp', rfl, q _ _ (Same.refl _) (rp_tup hka hks)⟩
  · refine ⟨(by show 0 ≤ sizeLine; decide), fun l hl => ?_⟩
    have e : G.kids t = [] := by
      cases t with
      | knot n tk ks => exact absurd (by rw [strD]; show decide (("knot" : Str) = "knot") = true; decide +kernel) c
      | _ => rfl
    refine q _ _ (sNew hl) ?_
    rw [e, encTs]
    exact rp_tup upd_same rl_nil

/-! ### places -/
theorem placesL_snoc (t : Tre) : ∀ (a : List Tre) (k : Nat), G.placesL k (a ++ [t]) = G.placesL k a ++ (G.places t).map ((k + a.length) :: ·)
  | [], k => by simp [G.placesL]
  | c :: a, k => by
    have h := placesL_snoc t a (k + 1)
    rw [List.cons_append, G.placesL, G.placesL, h, List.append_assoc, List.length_cons, show k + 1 + a.length = k + (a.length + 1) by omega]
theorem placesL_take {ks : List Tre} {i : Nat} {c : Tre} (h : ks[i]? = some c) : G.placesL 0 (ks.take (i + 1)) = G.placesL 0 (ks.take i) ++ (G.places c).map (i :: ·) := by
  have hi : i < ks.length := (List.getElem?_eq_some_iff.mp h).1
  have e : ks.take (i + 1) = ks.take i ++ [c] := by rw [List.take_succ, h]; rfl
  rw [e, placesL_snoc, List.length_take, Nat.min_eq_left (by omega), Nat.zero_add]
theorem placesL_len : ∀ (k : Nat) (ks : List Tre), (G.placesL k ks).length = (ks.map G.cnt).sum
  | _, [] => rfl
  | k, t :: r => by rw [G.placesL, List.length_append, List.length_map, placesL_len (k + 1) r, List.map_cons, List.sum_cons]; rfl
theorem sum_take_le (ks : List Tre) (i : Nat) : ((ks.take i).map G.cnt).sum ≤ (ks.map G.cnt).sum := by
  induction ks generalizing i with
  | nil => simp
  | cons t r ih =>
    cases i with
    | zero => simp
    | succ i => rw [List.take_succ_cons, List.map_cons, List.sum_cons, List.map_cons, List.sum_cons]; have := ih i; omega
theorem cnt_kids (t : Tre) : ((G.kids t).map G.cnt).sum + 1 = G.cnt t := by
  cases t with
  | knot n tk ks => rw [G.cnt_knot]; show (ks.map G.cnt).sum + 1 = _; omega
  | _ => simp [G.kids, G.cnt, G.places]
theorem cnt_kid {t c : Tre} (h : c ∈ G.kids t) : G.cnt c + 1 ≤ G.cnt t := by
  have e := cnt_kids t
  have : ∀ (l : List Tre), c ∈ l → G.cnt c ≤ (l.map G.cnt).sum := by
    intro l
    induction l with
    | nil => intro h; cases h
    | cons x r ih =>
      intro h
      rw [List.map_cons, List.sum_cons]
      rcases List.mem_cons.mp h with e | h
      · subst e; omega
      · have := ih h; omega
  have := this _ h
  omega
theorem places_kids (t : Tre) : G.places t = [] :: G.placesL 0 (G.kids t) := by
  cases t <;> simp [G.places, G.kids, G.placesL]
theorem encP_cons (k : Nat) (q : List Nat) : encP (k :: q) = .tup (.int (k : Nat) :: q.map fun k => .int (k : Nat)) := rfl
/-- one more place -/
def spPlaces (n : Nat) : Sp := fun vs H Q _ => ∃ (v : V) (t : Tre), vs = [v] ∧ Rp H (encT t) v ∧ G.depth t ≤ n ∧ n ≤ 100 ∧ G.cnt t ≤ 1000 ∧ ∀ l H', Same H H' → H l = none → Ls H' l ((G.places t).map encP) → Q (.ref l) H'
theorem scPlaces : FnScope ["tree", "found", "k", "kid", "place"] ["tree"] (defScope sPlaces) := ⟨rfl, rfl, rfl, by decide +kernel, rfl, by decide +kernel, by decide +kernel⟩
theorem small {n : Nat} (h : n ≤ 1000000) : n < sizeLine := Nat.lt_of_le_of_lt h (by decide)
theorem ok_places_step {n : Nat} (F : Fun K "places" "places" sPlaces f fd) (CK : Cal P w K mg base "kids_of" 1 ["tree"] spKids) (CP : Cal P w K mg base "places" (n + 1) ["tree"] (spPlaces n)) (me : mg "enumerate" = none) :
    FnOk P w K mg base CX0 (n + 1 + 1) f fd ["tree"] (spPlaces (n + 1)) := by
  refine F.ok scPlaces (fun vs H Q E h => ?_) (fun cdv A outer s H vs Q E hr h => ?_)
  · obtain ⟨v, t, rfl, _⟩ := h
    rfl
  obtain ⟨v, t, rfl, hv, hd, hn, hc, q⟩ := h
  have nd := scPlaces.nd
  refine ⟨_, pss_cons (ps_set (i := 1) nd rfl (Or.inl rfl) (pe_lst (pa_cons (pe_tup pa_nil) pa_nil)))
    (pss_cons (ps_for PassesOwn.never rfl (pi_enumT rfl me (pa_cons (pe_cal CK (hr.mono (by omega)) (pa_cons (pv 0) pa_nil)) pa_nil)) (pg_tup rfl (pgs_cons (pg_name (i := 2) nd rfl (Or.inl rfl)) (pgs_cons (pg_name (i := 3) nd rfl (Or.inl rfl)) pgs_nil)))
      (pss_one (ps_for PassesOwn.never rfl (pi_list (pe_cal CP hr (pa_cons (pv 3) pa_nil))) (pg_name (i := 4) nd rfl (Or.inl rfl))
        (pss_one (ps_expr (pe_bm PySem.F.plainAttrs_list PySem.F.slot_list_append PySem.F.type_list_append mt_append (pv 1) (pa_cons (pe_op op_catD (pe_tupD (pa_cons (pv 2) pa_nil)) (pv 4)) pa_nil)))))))
    (pss_one (ps_ret (pv 1)))), ?_⟩
  refine ⟨(by show 0 ≤ sizeLine; decide), fun t0 ht0 => ⟨(by show 1 ≤ sizeLine; decide), fun l hl => ?_⟩⟩
  have hl0 : H l = none := by
    have h1 : l ≠ t0 := fun e => by rw [e, upd_same] at hl; cases hl
    rw [upd_ne h1] at hl
    exact hl
  have s1 : Same H (upd (upd H t0 (.tup [])) l (.lst [.ref t0])) := sUpd (sNew ht0) hl0
  have e0 : Rp (upd (upd H t0 (.tup [])) l (.lst [.ref t0])) (encP []) (.ref t0) := rp_tup (vs := []) (by rw [upd_ne (by intro e; rw [e] at hl; rw [upd_same] at hl; cases hl)]; exact upd_same) rl_nil
  have l1 : Ls (upd (upd H t0 (.tup [])) l (.lst [.ref t0])) l [encP []] := ⟨_, upd_same, rl_one e0⟩
  generalize upd (upd H t0 (.tup [])) l (.lst [.ref t0]) = H1 at s1 l1
  refine ⟨_, rfl, v, t, rfl, hv.up (.of s1), fun r H2 s2 hr2 => ?_⟩
  obtain ⟨ka, kvs, rfl, hka, hks⟩ := un_tup hr2
  refine ⟨ka, kvs, rfl, SqT.of hka, ?_⟩
  have hlen : kvs.length = (G.kids t).length := by rw [hks.len, encTs_map, List.length_map]
  refine for_it walk_enumT (fun i σ H' => ∃ o2 o3 o4, σ = [some v, some (.ref l), o2, o3, o4] ∧ Same H H' ∧ TM H2 H' ∧ Ls H' l ((([] : List Nat) :: G.placesL 0 ((G.kids t).take i)).map encP))
    ⟨none, none, none, rfl, s1.trans s2, TM.refl _, by simpa [G.placesL] using l1.same s2⟩ (fun i σ H' _ ⟨_, _, _, _, _, tm, _⟩ => SqT.of (tm.t _ _ hka)) ?_ ?_
  · rintro i x σ H3 H3' hi ⟨o2, o3, o4, rfl, s3, tm3, l3⟩ ⟨T, x1, x2, rfl, hT, rfl, e1, e2⟩
    cases e1
    -- the pair
    refine ⟨T, _, rfl, SqT.of upd_same, rfl, _, _, rfl, _, _, rfl, rfl, ?_⟩
    obtain ⟨d, hd1, hx2⟩ := hks.get e2
    rw [encTs_map, List.getElem?_map] at hd1
    obtain ⟨c, hc1, rfl⟩ := Option.map_eq_some_iff.mp hd1
    have hcm : c ∈ G.kids t := List.mem_of_getElem? hc1
    have s4 : Same H (upd H3 T (.tup [.int (i : Nat), x2])) := s3.trans (sNew hT)
    have tm4 : TM H2 (upd H3 T (.tup [.int (i : Nat), x2])) := tm3.trans (.of (sNew hT))
    have l4 := l3.same (sNew (o := .tup [.int (i : Nat), x2]) hT)
    generalize upd H3 T (.tup [.int (i : Nat), x2]) = H4 at s4 tm4 l4
    refine ⟨_, rfl, x2, c, rfl, hx2.up tm4, by have := G.depth_kid hcm; omega, by omega, by have := cnt_kid hcm; omega, fun r5 H5 s5 n5 l5 => ?_⟩
    obtain ⟨ws, hws, hwl⟩ := l5
    have hwlen : ws.length = (G.places c).length := by rw [hwl.len, List.length_map]
    obtain ⟨acc0, ha0, hal0⟩ := l4.same s5
    have nl : l ≠ r5 := fun e => by
      obtain ⟨acc', ha', _⟩ := l4
      rw [e, n5] at ha'; cases ha'
    refine ⟨r5, rfl, ⟨_, SqL.of hws⟩, ?_⟩
    refine for_list (K := K) (a := r5) (xs := ws) (fun j σ H' => ∃ o4, σ = [some v, some (.ref l), some (.int (i : Nat)), some x2, o4] ∧ Same H H' ∧ TM H5 H' ∧ H' r5 = some (.lst ws) ∧
        Ls H' l ((([] : List Nat) :: G.placesL 0 ((G.kids t).take i) ++ ((G.places c).take j).map (i :: ·)).map encP))
      ⟨_, rfl, s4.trans s5, TM.refl _, hws, by simpa using (show Ls H5 l _ from ⟨acc0, ha0, hal0⟩)⟩ (fun j σ H' _ ⟨_, _, _, _, z, _⟩ => SqL.of z) ?_ ?_
    · rintro j y σ H6 hy ⟨o4, rfl, s6, tm6, hr6, ⟨acc, hacc, hal⟩⟩
      obtain ⟨d, hd1, hyd⟩ := hwl.get hy
      rw [List.getElem?_map] at hd1
      obtain ⟨pl, hpl, rfl⟩ := Option.map_eq_some_iff.mp hd1
      have hplm : pl ∈ G.places c := List.mem_of_getElem? hpl
      have hplen := G.place_len c pl hplm
      have hcd := G.depth_kid hcm
      refine ⟨_, rfl, .inl ⟨rfl, _, SqL.of hacc⟩, _, rfl, [.int (i : Nat)], rl_one rp_int, by simp, fun r7 H7 s7 hr7 => ?_⟩
      refine ⟨_, rfl, _, _, hr7, hyd.up (tm6.trans (.of s7)), Nat.le_of_lt (small (by rw [List.length_map, List.length_singleton]; omega)), fun r8 H8 s8 hr8 => ?_⟩
      have hl8 : H8 l = some (.lst acc) := s8 _ _ (s7 _ _ hacc)
      have hal8 := hal.up ((TM.of s7).trans (.of s8))
      have accl : acc.length ≤ 1000 := by
        have e := hal.len
        simp only [List.length_map, List.length_append, List.length_cons, List.length_take, placesL_len] at e
        have h1 := sum_take_le (G.kids t) (i + 1)
        have h2 := cnt_kids t
        have h3 : (((G.kids t).take (i + 1)).map G.cnt).sum = (((G.kids t).take i).map G.cnt).sum + G.cnt c := by
          rw [List.take_succ, hc1, List.map_append, List.sum_append]; simp
        have h4 : G.cnt c = (G.places c).length := rfl
        omega
      refine ⟨l, acc, r8, rfl, rfl, hl8, small (by omega), ?_⟩
      refine ⟨_, rfl, sUpd (s6.trans (s7.trans s8)) hl0, (tm6.trans ((TM.of s7).trans (.of s8))).trans (.upd (.lst hl8)), by rw [upd_ne (Ne.symm nl)]; exact s8 _ _ (s7 _ _ hr6), ?_⟩
      have e : ((([] : List Nat) :: G.placesL 0 ((G.kids t).take i) ++ ((G.places c).take (j + 1)).map (i :: ·)).map encP) = ((([] : List Nat) :: G.placesL 0 ((G.kids t).take i) ++ ((G.places c).take j).map (i :: ·)).map encP) ++ [encP (i :: pl)] := by
        rw [List.take_succ, hpl]
        simp
      rw [e]
      exact Ls.push hl8 hal8 hr8
    · rintro σ H6 ⟨o4, rfl, s6, tm6, hr6, l6⟩
      refine ⟨_, _, _, rfl, s6, tm4.trans ((TM.of s5).trans tm6), ?_⟩
      rw [placesL_take hc1]
      rw [hwlen, List.take_length] at l6
      exact l6
  · rintro σ H3 ⟨o2, o3, o4, rfl, s3, tm3, l3⟩
    refine ⟨_, rfl, q l H3 s3 hl0 ?_⟩
    rw [places_kids]
    rw [hlen, List.take_length] at l3
    exact l3
theorem ok_places (S : Std K mg "places" sPlaces ["tree"] f fd) (CK : Cal P w K mg base "kids_of" 1 ["tree"] spKids) (me : mg "enumerate" = none) : ∀ n, Cal P w K mg base "places" (n + 1) ["tree"] (spPlaces n)
  | 0 => S.cal (fn_never fun vs H Q E h => by
      obtain ⟨v, t, _, _, hd, _⟩ := h
      have := G.depth_pos t
      omega)
  | n + 1 => S.cal (ok_places_step S.fn CK (ok_places S CK me n) me)
end
end L2.Gs
set_option Elab.async false
set_option linter.all false
set_option maxRecDepth 100000
set_option maxHeartbeats 4000000
namespace L2.Gs
open PySem PySem.Spec PyProof.Rows
open _root_.G (Tre Plan Trees)
section
variable {P : Program} {w : World} {K : PySem.W.Frag} {mg : Str → Option Value} {base : Heap} {f : Addr} {fd : FuncData}

/-! ### piece_at -/
def spPiece : Sp := fun vs H Q _ => ∃ (v p : V) (t : Tre) (q : List Nat), vs = [v, p] ∧ Rp H (encT t) v ∧ Rp H (encP q) p ∧ G.okP t q ∧ ∀ r H', Same H H' → Rp H' (encT (G.get t q)) r → Q r H'
theorem scPiece : FnScope ["tree", "place", "found", "number", "kids"] ["tree", "place"] (defScope sPiece) := ⟨rfl, rfl, rfl, by decide +kernel, rfl, by decide +kernel, by decide +kernel⟩
theorem ok_piece (F : Fun K "piece_at" "piece_at" sPiece f fd) (CK : Cal P w K mg base "kids_of" 1 ["tree"] spKids) (ml : mg "len" = none) : FnOk P w K mg base CX0 2 f fd ["tree", "place"] spPiece := by
  refine F.ok scPiece (fun vs H Q E h => ?_) (fun cdv A outer s H vs Q E hr h => ?_)
  · obtain ⟨v, p, t, q, rfl, _⟩ := h
    rfl
  obtain ⟨v, p, t, q, rfl, hv, hp, hok, qq⟩ := h
  have nd := scPiece.nd
  refine ⟨_, pss_cons (ps_set (i := 2) nd rfl (Or.inl rfl) (pv 0))
    (pss_cons (ps_for PassesOwn.never rfl (pi_tup (pv 1)) (pg_name (i := 3) nd rfl (Or.inl rfl))
      (pss_cons (ps_set (i := 4) nd rfl (Or.inl rfl) (pe_cal CK hr (pa_cons (pv 2) pa_nil)))
      (pss_cons (ps_if (pt_not (pt_chain op_le op_lt pe_int (pv 3) (pe_callB call_lenTD rfl ml PySem.boot_len (pa_cons (pv 4) pa_nil)))) (pss_one ps_never) pss_nil)
      (pss_one (ps_set (i := 2) nd rfl (Or.inl rfl) (pe_ix ix_D (pv 4) (pv 3) (fun _ _ => rfl)))))))
    (pss_one (ps_ret (pv 2)))), ?_⟩
  obtain ⟨pa, ps, rfl, hpa, hps⟩ := un_tup hp
  have hlen : ps.length = q.length := by rw [hps.len, List.length_map]
  refine ⟨_, rfl, _, rfl, pa, rfl, ⟨_, SqT.of hpa⟩, ?_⟩
  refine for_tup (K := K) (a := pa) (xs := ps) (fun i σ H' => ∃ fv c o3 o4, σ = [some v, some (.ref pa), some fv, o3, o4] ∧ Same H H' ∧ Rp H' (encT c) fv ∧ G.okP c (q.drop i) ∧ G.get c (q.drop i) = G.get t q)
    ⟨v, t, none, none, rfl, Same.refl _, hv, hok, rfl⟩ (fun i σ H' _ ⟨_, _, _, _, _, s, _⟩ => SqT.of (s _ _ hpa)) ?_ ?_
  · rintro i x σ H1 hx ⟨fv, c, o3, o4, rfl, s1, hc, hk, hg⟩
    obtain ⟨d, hd, hxd⟩ := hps.get hx
    rw [List.getElem?_map] at hd
    obtain ⟨k, hk1, rfl⟩ := Option.map_eq_some_iff.mp hd
    have ex := un_int hxd
    subst ex
    have hqi : i < q.length := (List.getElem?_eq_some_iff.mp hk1).1
    have hdrop : q.drop i = k :: q.drop (i + 1) := by rw [List.drop_eq_getElem_cons hqi]; congr 1; exact Option.some.inj (by rw [← List.getElem?_eq_getElem hqi, hk1])
    rw [hdrop] at hk hg
    obtain ⟨c', hc', hk'⟩ := hk
    have hget : G.get c (k :: q.drop (i + 1)) = G.get c' (q.drop (i + 1)) := by rw [G.get, hc']
    refine ⟨_, rfl, fv, c, rfl, hc, fun r H2 s2 hr2 => ?_⟩
    have hkl : k < (G.kids c).length := (List.getElem?_eq_some_iff.mp hc').1
    refine ⟨_, rfl, _, _, rfl, rfl, _, rfl, ?_⟩
    refine iteT' (decide_eq_true (by omega)) ?_
    refine ⟨_, rfl, _, _, rfl, .inl hr2, _, _, rfl, rfl, _, rfl, ?_⟩
    refine iteF' ?_ ?_
    · show (!decide ((k : Int) < ((encTs (G.kids c)).length : Int))) = false
      rw [encTs_map, List.length_map, decide_eq_true (by omega)]
      rfl
    refine ⟨_, rfl, _, rfl, _, _, encT c', .inl hr2, rfl, atI_nat (by rw [encTs_map, List.getElem?_map, hc']; rfl), fun w' hw' => ?_⟩
    exact ⟨w', c', _, _, rfl, s1.trans s2, hw', hk', by rw [← hget]; exact hg⟩
  · rintro σ H1 ⟨fv, c, o3, o4, rfl, s1, hc, hk, hg⟩
    rw [hlen, List.drop_length] at hg
    exact ⟨_, rfl, qq _ _ s1 (by rw [← hg]; exact hc)⟩

/-! ### feet_of -/
def spFeet (n : Nat) : Sp := fun vs H Q _ => ∃ (v : V) (t : Tre), vs = [v] ∧ Rp H (encT t) v ∧ G.depth t ≤ n ∧ n ≤ 100 ∧ G.cnt t ≤ 1000 ∧ ∀ l H', Same H H' → H l = none → Ls H' l ((G.feet t).map D.str) → Q (.ref l) H'
abbrev nFeet : List Str := ["tree", "pieces", "place", "piece"]
theorem scFeet : FnScope nFeet ["tree"] (defScope sFeet) := ⟨rfl, rfl, rfl, by decide +kernel, rfl, by decide +kernel, by decide +kernel⟩
theorem tag_foot {t : Tre} : decide (tag t = "foot") = true → ∃ n, t = .foot n := by
  cases t with
  | knot n tk ks => intro h; exact absurd h (by show ¬ decide (("knot" : Str) = "foot") = true; decide +kernel)
  | sign _ => intro h; exact absurd h (by show ¬ decide (("sign" : Str) = "foot") = true; decide +kernel)
  | void => intro h; exact absurd h (by show ¬ decide (("void" : Str) = "foot") = true; decide +kernel)
  | hole _ => intro h; exact absurd h (by show ¬ decide (("hole" : Str) = "foot") = true; decide +kernel)
  | foot n => intro h; exact ⟨n, rfl⟩
theorem tag_hole {t : Tre} : decide (tag t = "hole") = true → ∃ n, t = .hole n := by
  cases t with
  | knot n tk ks => intro h; exact absurd h (by show ¬ decide (("knot" : Str) = "hole") = true; decide +kernel)
  | sign _ => intro h; exact absurd h (by show ¬ decide (("sign" : Str) = "hole") = true; decide +kernel)
  | void => intro h; exact absurd h (by show ¬ decide (("void" : Str) = "hole") = true; decide +kernel)
  | foot _ => intro h; exact absurd h (by show ¬ decide (("foot" : Str) = "hole") = true; decide +kernel)
  | hole n => intro h; exact ⟨n, rfl⟩
/-- the word of a piece, as a datum -/
theorem enc_tag (t : Tre) : ∃ r, encT t = .tup (.str (tag t) :: r) := by
  cases t <;> (rw [encT]; exact ⟨_, rfl⟩)
theorem rp_tag {H : Hp} {t : Tre} {v : V} (h : Rp H (encT t) v) : ∃ r, Rp H (.tup (.str (tag t) :: r)) v := by
  obtain ⟨r, e⟩ := enc_tag t
  exact ⟨r, by rw [← e]; exact h⟩
theorem filterMap_take_succ {α β : Type} (g : α → Option β) {l : List α} {i : Nat} {x : α} (h : l[i]? = some x) : (l.take (i + 1)).filterMap g = (l.take i).filterMap g ++ (g x).toList := by
  rw [List.take_succ, h, List.filterMap_append]
  cases e : g x <;> simp [e]
theorem filterMap_len {α β : Type} (g : α → Option β) (l : List α) (i : Nat) : ((l.take i).filterMap g).length ≤ l.length := by
  refine Nat.le_trans (List.length_filterMap_le _ _) ?_
  rw [List.length_take]; omega
theorem yesT {σ : St} {H : Hp} {A B : Hp → Prop} (h : A H) : tYes σ H (fun b H3 => if b = true then A H3 else B H3) := by show (if true = true then A H else B H); rw [if_pos rfl]; exact h
theorem ok_feet {n : Nat} (F : Fun K "feet_of" "feet_of" sFeet f fd) (CP : Cal P w K mg base "places" (n + 1) ["tree"] (spPlaces n)) (CA : Cal P w K mg base "piece_at" 2 ["tree", "place"] spPiece) :
    FnOk P w K mg base CX0 (n + 3) f fd ["tree"] (spFeet n) := by
  refine F.ok scFeet (fun vs H Q E h => ?_) (fun cdv A outer s H vs Q E hr h => ?_)
  · obtain ⟨v, t, rfl, _⟩ := h
    rfl
  obtain ⟨v, t, rfl, hv, hd, hn, hc, q⟩ := h
  have nd := scFeet.nd
  have hr1 : Room (n + 1) _ := hr.mono (by omega)
  have hr2 : Room 2 _ := hr.mono (by omega)
  refine ⟨_, pss_cons (ps_setLc (i := 1) (own := [("place", 2)]) (g := gName 2) (tt := tYes) rfl nd rfl rfl (sw_true rfl rfl rfl (by decide +kernel)) (pi_list (pe_cal CP hr1 (pa_cons (pv 0) pa_nil)))
      (blkOk_by (own := [("place", 2)]) (N := nFeet) (sc := defScope sFeet) (by decide +kernel)) (fun _ _ _ _ _ => pg_name (i := 2) nd rfl (Or.inl rfl)) (fun _ _ _ _ _ => pts_nil) (fun _ _ _ _ _ => pe_cal CA hr2 (pa_cons (pv 0) (pa_cons (pv 2) pa_nil))))
    (pss_one (ps_ret (pe_lc (own := [("piece", 3)]) (g := gName 3) rfl nd (pi_list (pv 1)) (blkOk_by (own := [("piece", 3)]) (N := nFeet) (sc := defScope sFeet) (by decide +kernel)) (fun _ _ _ _ _ => pg_name (i := 3) nd rfl (Or.inl rfl))
      (fun _ _ _ _ _ => pts_one (pt_cmpR op_eq (pe_ix ix_D (pv 3) pe_int (fun _ _ => rfl)) pe_str (nomark _))) (fun _ _ _ _ _ => pe_ix ix_D (pv 3) pe_int (fun _ _ => rfl))))), ?_⟩
  refine ⟨_, rfl, v, t, rfl, hv, hd, hn, hc, fun r1 H1 s1 n1 l1 => ?_⟩
  obtain ⟨ws, hws, hwl⟩ := l1
  have hwlen : ws.length = (G.places t).length := by rw [hwl.len, List.length_map]
  have hsub : (G.subs t).length = (G.places t).length := by simp [G.subs]
  have hc' : (G.places t).length ≤ 1000 := hc
  refine ⟨r1, rfl, ⟨_, SqL.of hws⟩, fun d1 hd1 => ?_⟩
  have nd1 : r1 ≠ d1 := ne_of_none hws hd1
  have hd0 : H d1 = none := s1.free hd1
  refine lc_list (K := K) (a := r1) (xs := ws) (fun i H' => Same H1 H' ∧ Ls H' d1 (((G.subs t).take i).map encT)) ⟨sNew hd1, [], upd_same, rl_nil⟩ (fun i H' _ ⟨s', _⟩ => SqL.of (s' _ _ hws)) ?_ ?_
  · rintro i x H2 hx ⟨s2, ⟨acc, hacc, hal⟩⟩
    obtain ⟨d, he, hxd⟩ := hwl.get hx
    rw [List.getElem?_map] at he
    obtain ⟨pl, hpl, rfl⟩ := Option.map_eq_some_iff.mp he
    refine ⟨rfl, ?_⟩
    refine yesT ?_
    refine ⟨_, rfl, _, rfl, v, x, t, pl, rfl, (hv.up (.of s1)).up (.of s2), hxd.up (.of s2), G.places_ok t pl (List.mem_of_getElem? hpl), fun r3 H3 s3 hr3 => ?_⟩
    have hacc3 := s3 _ _ hacc
    have al : acc.length ≤ 1000 := by rw [hal.len, List.length_map, List.length_take]; omega
    refine ⟨acc, hacc3, small (by omega), sUpd (s2.trans s3) hd1, ?_⟩
    have e : ((G.subs t).take (i + 1)).map encT = ((G.subs t).take i).map encT ++ [encT (G.get t pl)] := by
      rw [List.take_succ]
      have : (G.subs t)[i]? = some (G.get t pl) := by unfold G.subs; rw [List.getElem?_map, hpl]; rfl
      rw [this]
      simp
    rw [e]
    exact Ls.push hacc3 (hal.up (.of s3)) hr3
  · rintro H2 ⟨s2, l2⟩
    rw [hwlen, ← hsub, List.take_length] at l2
    obtain ⟨ps, hps, hpl⟩ := l2
    have hplen : ps.length = (G.subs t).length := by rw [hpl.len, List.length_map]
    refine ⟨_, rfl, d1, rfl, ⟨_, SqL.of hps⟩, fun d2 hd2 => ?_⟩
    have hd20 : H d2 = none := (s1.trans s2).free hd2
    refine lc_list (K := K) (a := d1) (xs := ps) (fun i H' => Same H2 H' ∧ Ls H' d2 ((((G.subs t).take i).filterMap G.footN).map D.str)) ⟨sNew hd2, [], upd_same, rl_nil⟩ (fun i H' _ ⟨s', _⟩ => SqL.of (s' _ _ hps)) ?_ ?_
    · rintro i x H3 hx ⟨s3, l3⟩
      obtain ⟨d, he, hxd⟩ := hpl.get hx
      rw [List.getElem?_map] at he
      obtain ⟨c, hc1, rfl⟩ := Option.map_eq_some_iff.mp he
      have hxd3 := hxd.up (.of s3)
      obtain ⟨r, hr0⟩ := rp_tag hxd3
      refine ⟨rfl, ?_⟩
      refine ⟨_, rfl, _, _, _, .inl hr0, rfl, at0, fun w1 hw1 => ?_⟩
      rw [un_str hw1]
      refine ⟨rfl, _, rfl, ?_⟩
      rw [strD]
      rw [filterMap_take_succ _ hc1]
      refine ite2 (fun cc => ?_) (fun cc => ?_)
      · obtain ⟨m, rfl⟩ := tag_foot cc
        rw [encT] at hxd3
        obtain ⟨acc, hacc, hal⟩ := l3
        have al : acc.length ≤ 1000 := by
          have := filterMap_len G.footN (G.subs t) i
          rw [hal.len, List.length_map]; omega
        refine ⟨_, rfl, _, _, _, .inl hxd3, rfl, atI_nat (j := 1) rfl, fun w2 hw2 => ?_⟩
        refine ⟨acc, hacc, small (by omega), sUpd s3 hd2, ?_⟩
        rw [List.map_append]
        exact Ls.push hacc hal hw2
      · refine ⟨s3, ?_⟩
        have e : G.footN c = none := by
          cases c with
          | foot m => exact absurd (by show decide (("foot" : Str) = "foot") = true; decide +kernel) cc
          | _ => rfl
        rw [e]
        simpa using l3
    · rintro H3 ⟨s3, l3⟩
      rw [hplen, List.take_length] at l3
      exact q _ _ ((s1.trans s2).trans s3) hd20 l3

/-! ### is_graft, name_of -/
def spGraft (n : Nat) : Sp := fun vs H Q _ => ∃ (v : V) (t : Tre), vs = [v] ∧ Rp H (encT t) v ∧ G.depth t ≤ n ∧ n ≤ 100 ∧ G.cnt t ≤ 1000 ∧ ∀ H', Same H H' → Q (.bl (G.isGraft t)) H'
theorem scGraft : FnScope ["tree"] ["tree"] (defScope sGraft) := ⟨rfl, rfl, rfl, by decide +kernel, rfl, by decide +kernel, by decide +kernel⟩
theorem ok_graft {n : Nat} (F : Fun K "is_graft" "is_graft" sGraft f fd) (CF : Cal P w K mg base "feet_of" (n + 3) ["tree"] (spFeet n)) (ml : mg "len" = none) : FnOk P w K mg base CX0 (n + 4) f fd ["tree"] (spGraft n) := by
  refine F.ok scGraft (fun vs H Q E h => ?_) (fun cdv A outer s H vs Q E hr h => ?_)
  · obtain ⟨v, t, rfl, _⟩ := h
    rfl
  obtain ⟨v, t, rfl, hv, hd, hn, hc, q⟩ := h
  refine ⟨_, pss_one (ps_ret (pe_cmpR op_eq (pe_callB call_lenLD rfl ml PySem.boot_len (pa_cons (pe_cal CF hr (pa_cons (pv 0) pa_nil)) pa_nil)) pe_int (nomark _))), ?_⟩
  refine ⟨_, rfl, v, t, rfl, hv, hd, hn, hc, fun l1 H1 s1 n1 hl1 => ⟨l1, _, rfl, hl1, rfl, ?_⟩⟩
  have e : decide (V.int (((G.feet t).map D.str).length : Nat) = V.int 1) = G.isGraft t := by
    rw [intD, List.length_map]
    unfold G.isGraft
    by_cases h : (G.feet t).length = 1
    · rw [h]; rfl
    · rw [decide_eq_false (by omega)]; exact (beq_eq_false_iff_ne.mpr h).symm
  show Q (.bl (decide (V.int (((G.feet t).map D.str).length : Nat) = V.int 1))) H1
  rw [e]
  exact q _ s1
def spName (n : Nat) : Sp := fun vs H Q _ => ∃ (v : V) (t : Tre), vs = [v] ∧ Rp H (encT t) v ∧ (∃ m tk ks, t = .knot m tk ks) ∧ G.depth t ≤ n ∧ n ≤ 100 ∧ G.cnt t ≤ 1000 ∧ ∀ H', Same H H' → Q (.str (G.nameOf t)) H'
theorem scName : FnScope ["tree", "feet"] ["tree"] (defScope sName) := ⟨rfl, rfl, rfl, by decide +kernel, rfl, by decide +kernel, by decide +kernel⟩
theorem ok_name {n : Nat} (F : Fun K "name_of" "name_of" sName f fd) (CF : Cal P w K mg base "feet_of" (n + 3) ["tree"] (spFeet n)) (ml : mg "len" = none) : FnOk P w K mg base CX0 (n + 4) f fd ["tree"] (spName n) := by
  refine F.ok scName (fun vs H Q E h => ?_) (fun cdv A outer s H vs Q E hr h => ?_)
  · obtain ⟨v, t, rfl, _⟩ := h
    rfl
  obtain ⟨v, t, rfl, hv, ⟨m, tk, ks, rfl⟩, hd, hn, hc, q⟩ := h
  have nd := scName.nd
  refine ⟨_, pss_cons (ps_set (i := 1) nd rfl (Or.inl rfl) (pe_cal CF hr (pa_cons (pv 0) pa_nil)))
    (pss_one (ps_ret (pe_ifExp (pt_cmpR op_eq (pe_callB call_lenLD rfl ml PySem.boot_len (pa_cons (pv 1) pa_nil)) pe_int (nomark _)) (pe_ix ix_LD (pv 1) pe_int (fun _ _ => rfl)) (pe_ix ix_D (pv 0) pe_int (fun _ _ => rfl))))), ?_⟩
  refine ⟨_, rfl, v, _, rfl, hv, hd, hn, hc, fun l1 H1 s1 n1 hl1 => ⟨_, rfl, l1, _, rfl, hl1, rfl, _, rfl, ?_⟩⟩
  rw [intD, List.length_map]
  refine ite2 (fun c => ?_) (fun c => ?_)
  · have c' : (G.feet (.knot m tk ks)).length = 1 := by have := of_decide_eq_true c; omega
    match hf : G.feet (.knot m tk ks) with
    | [] => rw [hf] at c'; cases c'
    | a :: b :: r => rw [hf] at c'; simp at c'
    | [a] =>
      rw [hf] at hl1
      refine ⟨_, rfl, l1, _, _, _, rfl, hl1, rfl, at0, fun w1 hw1 => ?_⟩
      rw [un_str hw1]
      have e : G.nameOf (.knot m tk ks) = a := by unfold G.nameOf; rw [hf]
      rw [← e]
      exact q _ s1
  · have hv1 := hv.up (.of s1)
    rw [encT] at hv1
    refine ⟨_, rfl, _, _, _, .inl hv1, rfl, atI_nat (j := 1) rfl, fun w1 hw1 => ?_⟩
    rw [un_str hw1]
    have e : G.nameOf (.knot m tk ks) = m := by
      unfold G.nameOf
      match hf : G.feet (.knot m tk ks) with
      | [] => rfl
      | a :: b :: r => rfl
      | [a] => rw [hf] at c; exact absurd (decide_eq_true rfl) c
    rw [← e]
    exact q _ s1
end
end L2.Gs
set_option Elab.async false
set_option linter.all false
set_option maxRecDepth 100000
set_option maxHeartbeats 4000000
namespace L2.Gs
open PySem PySem.Spec PyProof.Rows
open _root_.G (Tre Plan Trees)
section
variable {P : Program} {w : World} {K : PySem.W.Frag} {mg : Str → Option Value} {base : Heap} {f : Addr} {fd : FuncData}

/-! ### tree_of -/
def spTreeOf : Sp := fun vs H Q _ => ∃ (bv : V) (top : Str) (ts : Trees) (key : Str) (t : Tre), vs = [bv, .str key] ∧ Rp H (encB top ts) bv ∧ G.treeOf ts key = some t ∧ ∀ r H', Same H H' → Rp H' (encT t) r → Q r H'
theorem scTreeOf : FnScope ["book", "key", "found", "one", "tree"] ["book", "key"] (defScope sTreeOf) := ⟨rfl, rfl, rfl, by decide +kernel, rfl, by decide +kernel, by decide +kernel⟩
def RpO (H : Hp) : Option Tre → V → Prop
  | none, v => v = .non
  | some t, v => Rp H (encT t) v
theorem foldl_take_succ {α β : Type} (g : β → α → β) (b : β) {l : List α} {i : Nat} {x : α} (h : l[i]? = some x) : (l.take (i + 1)).foldl g b = g ((l.take i).foldl g b) x := by
  rw [List.take_succ, h, List.foldl_append]; rfl
theorem ok_treeOf (F : Fun K "tree_of" "tree_of" sTreeOf f fd) : FnOk P w K mg base CX0 1 f fd ["book", "key"] spTreeOf := by
  refine F.ok scTreeOf (fun vs H Q E h => ?_) (fun cdv A outer s H vs Q E hr h => ?_)
  · obtain ⟨bv, top, ts, key, t, rfl, _⟩ := h
    rfl
  obtain ⟨bv, top, ts, key, t, rfl, hb, ht, q⟩ := h
  have nd := scTreeOf.nd
  refine ⟨_, pss_cons (ps_set (i := 2) nd rfl (Or.inl rfl) pe_non)
    (pss_cons (ps_for PassesOwn.never rfl (pi_tup (pe_ix ix_D (pv 0) pe_int (fun _ _ => rfl))) (pg_tup rfl (pgs_cons (pg_name (i := 3) nd rfl (Or.inl rfl)) (pgs_cons (pg_name (i := 4) nd rfl (Or.inl rfl)) pgs_nil)))
      (pss_one (ps_if (pt_cmpR op_eq (pv 3) (pv 1) (nomark _)) (pss_one (ps_set (i := 2) nd rfl (Or.inl rfl) (pv 4))) pss_nil)))
    (pss_one (ps_ret (pv 2)))), ?_⟩
  refine ⟨_, rfl, _, _, _, .inl hb, rfl, atI_nat (j := 1) rfl, fun tv htv => ?_⟩
  obtain ⟨a, xs, o, rfl, ha, _, hl⟩ := un_ftup htv
  have hlen : xs.length = ts.length := by rw [hl.len, List.length_map]
  refine ⟨a, rfl, ⟨_, SqT.fz ha⟩, ?_⟩
  refine for_tup (K := K) (a := a) (xs := xs) (fun i σ H' => ∃ fv o3 o4, σ = [some bv, some (.str key), some fv, o3, o4] ∧ H' = H ∧ RpO H ((ts.take i).foldl (fun o kt => if kt.1 = key then some kt.2 else o) none) fv)
    ⟨.non, none, none, rfl, rfl, rfl⟩ (fun i σ H' _ ⟨_, _, _, _, e, _⟩ => by rw [e]; exact SqT.fz ha) ?_ ?_
  · rintro i x σ H1 hx ⟨fv, o3, o4, rfl, rfl, hf⟩
    obtain ⟨d, hd, hxd⟩ := hl.get hx
    rw [List.getElem?_map] at hd
    obtain ⟨⟨k1, t1⟩, hk1, rfl⟩ := Option.map_eq_some_iff.mp hd
    obtain ⟨p, x1, x2, rfl, hp, h1, h2⟩ := un_tup2 hxd
    rw [un_str h1] at hp
    refine ⟨p, _, rfl, SqT.of hp, rfl, _, _, rfl, _, _, rfl, rfl, ?_⟩
    refine ⟨_, rfl, _, rfl, rfl, _, rfl, ?_⟩
    rw [strD]
    rw [foldl_take_succ _ _ hk1]
    refine ite2 (fun c => ?_) (fun c => ?_)
    · refine ⟨_, rfl, _, _, _, rfl, rfl, ?_⟩
      rw [if_pos (of_decide_eq_true c)]
      exact h2
    · refine ⟨_, _, _, rfl, rfl, ?_⟩
      rw [if_neg (of_decide_eq_false (Bool.eq_false_iff.mpr c))]
      exact hf
  · rintro σ H1 ⟨fv, o3, o4, rfl, rfl, hf⟩
    rw [hlen, List.take_length] at hf
    have e : G.treeOf ts key = ts.foldl (fun o kt => if kt.1 = key then some kt.2 else o) none := rfl
    rw [← e, ht] at hf
    exact ⟨_, rfl, q _ _ (Same.refl _) hf⟩

/-! ### wanted -/
def encW : Option (Bool × Str × Bool) → D
  | none => .non
  | some (g, n, b) => .tup [.bl g, .str n, .bl b]
def spWanted : Sp := fun vs H Q _ => ∃ (v : V) (t : Tre), vs = [v] ∧ Rp H (encT t) v ∧ ∀ r H', Same H H' → Rp H' (encW (G.want t)) r → Q r H'
theorem scWanted : FnScope ["piece"] ["piece"] (defScope sWanted) := ⟨rfl, rfl, rfl, by decide +kernel, rfl, by decide +kernel, by decide +kernel⟩
theorem want_none {t : Tre} (h1 : ¬ decide (tag t = "hole") = true) (h2 : ¬ decide (tag t = "knot") = true) : G.want t = none := by
  cases t with
  | hole n => exact absurd (by show decide (("hole" : Str) = "hole") = true; decide +kernel) h1
  | knot n tk ks => exact absurd (by show decide (("knot" : Str) = "knot") = true; decide +kernel) h2
  | _ => rfl
theorem ok_wanted (F : Fun K "wanted" "wanted" sWanted f fd) : FnOk P w K mg base CX0 1 f fd ["piece"] spWanted := by
  refine F.ok scWanted (fun vs H Q E h => ?_) (fun cdv A outer s H vs Q E hr h => ?_)
  · obtain ⟨v, t, rfl, _⟩ := h
    rfl
  obtain ⟨v, t, rfl, hv, q⟩ := h
  refine ⟨_, pss_cons (ps_if (pt_cmpR op_eq (pe_ix ix_D (pv 0) pe_int (fun _ _ => rfl)) pe_str (nomark _)) (pss_one (ps_ret (pe_tupD (pa_cons pe_bl (pa_cons (pe_ix ix_D (pv 0) pe_int (fun _ _ => rfl)) (pa_cons pe_bl pa_nil)))))) pss_nil)
    (pss_cons (ps_if (PW.pt (pw_and (pt_cmpR op_eq (pe_ix ix_D (pv 0) pe_int (fun _ _ => rfl)) pe_str (nomark _)) (pw_and1 (pt_cmpR op_notN (pe_ix ix_D (pv 0) pe_int (fun _ _ => rfl)) pe_non (nomark _)))))
      (pss_one (ps_ret (pe_tupD (pa_cons pe_bl (pa_cons (pe_ix ix_D (pe_ix ix_D (pv 0) pe_int (fun _ _ => rfl)) pe_int (fun _ _ => rfl)) (pa_cons (pe_ix ix_D (pe_ix ix_D (pv 0) pe_int (fun _ _ => rfl)) pe_int (fun _ _ => rfl)) pa_nil)))))) pss_nil)
    (pss_one (ps_ret pe_non))), ?_⟩
  obtain ⟨r, hr0⟩ := rp_tag hv
  refine ⟨_, rfl, _, _, _, .inl hr0, rfl, at0, fun w1 hw1 => ?_⟩
  rw [un_str hw1]
  refine ⟨rfl, _, rfl, ?_⟩
  rw [strD]
  refine ite2 (fun c => ?_) (fun c => ?_)
  · obtain ⟨n, rfl⟩ := tag_hole c
    rw [encT] at hv
    refine ⟨_, rfl, _, _, _, .inl hv, rfl, atI_nat (j := 1) rfl, fun w2 hw2 => ?_⟩
    exact ⟨_, rl_cons rp_bl (rl_cons hw2 (rl_one rp_bl)), by simp, fun r' H' s' h' => q _ _ s' h'⟩
  · refine ⟨_, rfl, _, _, _, .inl hr0, rfl, at0, fun w2 hw2 => ?_⟩
    rw [un_str hw2]
    refine ⟨rfl, _, rfl, ?_⟩
    rw [strD]
    refine ite2 (fun c2 => ?_) (fun c2 => ?_)
    · obtain ⟨n, tk, ks, rfl⟩ := tag_knot c2
      rw [encT] at hv
      refine ⟨_, rfl, _, _, _, .inl hv, rfl, atI_nat (j := 2) rfl, fun w3 hw3 => ?_⟩
      refine ⟨rfl, _, rfl, ?_⟩
      cases tk with
      | none =>
        rw [un_non hw3]
        refine iteF' (by decide) ?_
        exact q _ _ (Same.refl _) rp_non
      | some mb =>
        obtain ⟨m, b⟩ := mb
        obtain ⟨p3, vs3, rfl, _, _⟩ := un_tup hw3
        refine iteT' rfl ?_
        refine ⟨_, rfl, _, _, _, .inl hv, rfl, atI_nat (j := 2) rfl, fun w4 hw4 => ?_⟩
        refine ⟨_, _, _, .inl hw4, rfl, atI_nat (j := 0) rfl, fun w5 hw5 => ?_⟩
        refine ⟨_, rfl, _, _, _, .inl hv, rfl, atI_nat (j := 2) rfl, fun w6 hw6 => ?_⟩
        refine ⟨_, _, _, .inl hw6, rfl, atI_nat (j := 1) rfl, fun w7 hw7 => ?_⟩
        exact ⟨_, rl_cons rp_bl (rl_cons hw5 (rl_one hw7)), by simp, fun r' H' s' h' => q _ _ s' h'⟩
    · refine iteF' rfl ?_
      refine q _ _ (Same.refl _) ?_
      rw [want_none c c2]
      exact rp_non

/-! ### takers -/
def spTakers : Sp := fun vs H Q _ => ∃ (bv v : V) (top : Str) (ts : Trees) (t : Tre), vs = [bv, v] ∧ Rp H (encB top ts) bv ∧ G.TreesOk ts ∧ Rp H (encT t) v ∧ ∀ l H', Same H H' → H l = none → Ls H' l ((G.takers ts t).map D.str) → Q (.ref l) H'
abbrev nTakers : List Str := ["book", "piece", "want", "key", "tree"]
theorem scTakers : FnScope nTakers ["book", "piece"] (defScope sTakers) := ⟨rfl, rfl, rfl, by decide +kernel, rfl, by decide +kernel, by decide +kernel⟩
theorem filter_take_succ {α : Type} (g : α → Bool) {l : List α} {i : Nat} {x : α} (h : l[i]? = some x) : (l.take (i + 1)).filter g = (l.take i).filter g ++ (if g x then [x] else []) := by
  rw [List.take_succ, h, List.filter_append]
  cases e : g x <;> simp [e]
theorem filter_len {α : Type} (g : α → Bool) (l : List α) (i : Nat) : ((l.take i).filter g).length ≤ l.length := by
  refine Nat.le_trans (List.length_filter_le _ _) ?_
  rw [List.length_take]; omega
theorem ok_takers (F : Fun K "takers" "takers" sTakers f fd) (CW : Cal P w K mg base "wanted" 1 ["piece"] spWanted) (CG : Cal P w K mg base "is_graft" 9 ["tree"] (spGraft 5)) (CN : Cal P w K mg base "name_of" 9 ["tree"] (spName 5)) :
    FnOk P w K mg base CX0 10 f fd ["book", "piece"] spTakers := by
  refine F.ok scTakers (fun vs H Q E h => ?_) (fun cdv A outer s H vs Q E hr h => ?_)
  · obtain ⟨bv, v, top, ts, t, rfl, _⟩ := h
    rfl
  obtain ⟨bv, v, top, ts, t, rfl, hb, ok, hv, q⟩ := h
  have nd := scTakers.nd
  have hr1 : Room 1 _ := hr.mono (by decide)
  refine ⟨_, pss_cons (ps_set (i := 2) nd rfl (Or.inr rfl) (pe_cal CW hr1 (pa_cons (pv 1) pa_nil)))
    (pss_cons (ps_if (pt_cmpR op_isN (pv 2) pe_non (nomark _)) (pss_one (ps_ret (pe_lstD pa_nil))) pss_nil)
    (pss_one (ps_ret (pe_lc (own := [("key", 3), ("tree", 4)]) (g := gTup K 2 (gCons (gName 3) (gCons (gName 4) gNil))) rfl nd (pi_tup (pe_ix ix_D (pv 0) pe_int (fun _ _ => rfl))) (blkOk_by (own := [("key", 3), ("tree", 4)]) (N := nTakers) (sc := defScope sTakers) (by decide +kernel))
      (fun _ _ _ _ _ => pg_tup rfl (pgs_cons (pg_name (i := 3) nd rfl (Or.inl rfl)) (pgs_cons (pg_name (i := 4) nd rfl (Or.inl rfl)) pgs_nil)))
      (fun _ _ _ _ _ => pts_one (PW.pt (pw_and (pt_cmpR op_eq (pe_cal CG hr (pa_cons (pv 4) pa_nil)) (pe_ix ix_D (pv 2) pe_int (fun _ _ => rfl)) (nomark _)) (pw_and1 (pt_cmpR op_eq (pe_cal CN hr (pa_cons (pv 4) pa_nil)) (pe_ix ix_D (pv 2) pe_int (fun _ _ => rfl)) (nomark _))))))
      (fun _ _ _ _ _ => pv 3))))), ?_⟩
  refine ⟨_, rfl, v, t, rfl, hv, fun wv H1 s1 hw => ?_⟩
  refine ⟨_, rfl, rfl, _, rfl, ?_⟩
  cases hwant : G.want t with
  | none =>
    rw [hwant] at hw
    rw [un_non hw]
    refine iteT' (by decide) ?_
    refine ⟨[], rl_nil, by simp, fun l H2 s2 n2 l2 => ?_⟩
    refine q l H2 (s1.trans s2) (s1.free n2) ?_
    rw [G.takers_none hwant]
    exact l2
  | some gnb =>
    obtain ⟨g, n, b⟩ := gnb
    rw [hwant] at hw
    obtain ⟨wp, wvs, rfl, _, _⟩ := un_tup hw
    refine iteF' rfl ?_
    have hb1 := hb.up (.of s1)
    refine ⟨_, rfl, _, _, _, .inl hb1, rfl, atI_nat (j := 1) rfl, fun tv htv => ?_⟩
    obtain ⟨a, xs, o, rfl, ha, _, hl⟩ := un_ftup htv
    have hlen : xs.length = ts.length := by rw [hl.len, List.length_map]
    refine ⟨a, rfl, ⟨_, SqT.fz ha⟩, fun D0 hD0 => ?_⟩
    have h11 := ok.len
    refine lc_tup (K := K) (a := a) (xs := xs) (fun i H' => Same H1 H' ∧ Ls H' D0 ((((ts.take i).filter fun kt => decide (G.called kt.2 = (g, n))).map (·.1)).map D.str)) ⟨sNew hD0, [], upd_same, rl_nil⟩ (fun i H' _ ⟨s', _⟩ => SqT.fz (s' _ _ ha)) ?_ ?_
    · rintro i x H2 hx ⟨s2, l2⟩
      obtain ⟨d, hd, hxd⟩ := hl.get hx
      rw [List.getElem?_map] at hd
      obtain ⟨⟨k1, t1⟩, hk1, rfl⟩ := Option.map_eq_some_iff.mp hd
      have tok := ok.ok k1 t1 (List.mem_of_getElem? hk1)
      have hxd2 := hxd.up (.of s2)
      obtain ⟨p, x1, x2, rfl, hp, h1, h2⟩ := un_tup2 hxd2
      rw [un_str h1] at hp
      refine ⟨p, _, rfl, SqT.of hp, rfl, _, _, rfl, _, _, rfl, rfl, ?_⟩
      refine ⟨rfl, ?_⟩
      rw [filter_take_succ _ hk1]
      have ce := G.called_eq tok.ft
      refine ⟨_, rfl, x2, t1, rfl, h2, tok.dep, by omega, by have := tok.cn; omega, fun H3 s3 => ?_⟩
      have hw3 := (hw.up (.of s2)).up (.of s3)
      refine ⟨_, rfl, _, _, _, .inl hw3, rfl, atI_nat (j := 0) rfl, fun w1 hw1 => ?_⟩
      rw [un_bl hw1]
      refine ⟨rfl, _, rfl, ?_⟩
      rw [blD]
      refine ite2 (fun c => ?_) (fun c => ?_)
      · refine ⟨_, rfl, x2, t1, rfl, h2.up (.of s3), tok.kn, tok.dep, by omega, by have := tok.cn; omega, fun H4 s4 => ?_⟩
        refine ⟨_, rfl, _, _, _, .inl (hw3.up (.of s4)), rfl, atI_nat (j := 1) rfl, fun w2 hw2 => ?_⟩
        rw [un_str hw2]
        refine ⟨rfl, _, rfl, ?_⟩
        rw [strD]
        obtain ⟨acc, hacc, hal⟩ := (l2.same s3).same s4
        have al : acc.length ≤ 1000 := by
          have := filter_len (fun kt : Str × Tre => decide (G.called kt.2 = (g, n))) ts i
          rw [hal.len, List.length_map, List.length_map]; omega
        refine ite2 (fun c2 => ?_) (fun c2 => ?_)
        · refine ⟨_, rfl, acc, hacc, small (by omega), sUpd ((s2.trans s3).trans s4) hD0, ?_⟩
          rw [if_pos (by rw [ce, of_decide_eq_true c, of_decide_eq_true c2]; exact decide_eq_true rfl), List.map_append, List.map_append]
          exact Ls.push hacc hal rp_str
        · refine ⟨(s2.trans s3).trans s4, ?_⟩
          rw [if_neg (fun z => by
            have z' := of_decide_eq_true z
            rw [ce] at z'
            exact c2 (decide_eq_true (Prod.mk.inj z').2)), List.append_nil]
          exact ⟨acc, hacc, hal⟩
      · refine iteF' rfl ?_
        refine ⟨s2.trans s3, ?_⟩
        rw [if_neg (fun z => by
            have z' := of_decide_eq_true z
            rw [ce] at z'
            exact c (decide_eq_true (Prod.mk.inj z').1)), List.append_nil]
        exact l2.same s3
    · rintro H2 ⟨s2, l2⟩
      rw [hlen, List.take_length] at l2
      refine q _ _ (s1.trans s2) (s1.free hD0) ?_
      have e : G.takers ts t = (ts.filter fun kt => decide (G.called kt.2 = (g, n))).map (·.1) := by unfold G.takers G.takersBy; rw [hwant]
      rw [e]
      exact l2
end
end L2.Gs
set_option Elab.async false
set_option linter.all false
set_option maxRecDepth 100000
set_option maxHeartbeats 4000000
namespace L2.Gs
open PySem PySem.Spec PyProof.Rows
open _root_.G (Tre Plan Trees)
section
variable {P : Program} {w : World} {K : PySem.W.Frag} {mg : Str → Option Value} {base : Heap} {f : Addr} {fd : FuncData}

/-! ### places as data -/
def natZ (q : List Nat) : List Int := q.map fun k => ((k : Nat) : Int)
theorem rpl_natZ {H : Hp} : ∀ {q : List Nat} {vs : List V}, RpL H (q.map fun k => D.int (k : Nat)) vs → vs = (natZ q).map V.int
  | [], vs, h => ul_nil h
  | k :: q, vs, h => by
    obtain ⟨v, r, rfl, h1, h2⟩ := ul_cons h
    rw [un_int h1, rpl_natZ h2]
    rfl
theorem natZ_rpl {H : Hp} : ∀ {q : List Nat}, RpL H (q.map fun k => D.int (k : Nat)) ((natZ q).map V.int)
  | [] => rl_nil
  | k :: q => rl_cons rp_int natZ_rpl
theorem un_P {H : Hp} {q : List Nat} {v : V} (h : Rp H (encP q) v) : ∃ a, v = .ref a ∧ H a = some (.tup ((natZ q).map V.int)) := by
  obtain ⟨a, vs, rfl, ha, hl⟩ := un_tup h
  rw [rpl_natZ hl] at ha
  exact ⟨a, rfl, ha⟩
theorem rp_P {H : Hp} {q : List Nat} {a : Addr} (h : H a = some (.tup ((natZ q).map V.int))) : Rp H (encP q) (.ref a) := rp_tup h natZ_rpl
theorem lexLt_ints : ∀ q r : List Nat, HT.lexLt (natZ q) (natZ r) = G.lt q r
  | [], [] => rfl
  | [], _ :: _ => rfl
  | _ :: _, [] => rfl
  | x :: xs, y :: ys => by
    show HT.lexLt ((x : Int) :: natZ xs) ((y : Int) :: natZ ys) = _
    rw [HT.lexLt_cons, G.lt, lexLt_ints xs ys]
    by_cases e : x = y
    · rw [if_pos (by rw [e]), if_pos e]
    · rw [if_neg (by omega), if_neg e]
      by_cases l : x < y
      · rw [decide_eq_true (by omega), decide_eq_true l]
      · rw [decide_eq_false (by omega), decide_eq_false l]

/-! ### are_numbers -/
def spNumbers : Sp := fun vs H Q _ => ∃ (v : V) (q : List Nat), vs = [v] ∧ Rp H (encP q) v ∧ ∀ H', Same H H' → Q (.bl true) H'
theorem scNumbers : FnScope ["thing", "one"] ["thing"] (defScope sNumbers) := ⟨rfl, rfl, rfl, by decide +kernel, rfl, by decide +kernel, by decide +kernel⟩
/-- the built-ins that the module has not laid over -/
structure Blt (mg : Str → Option Value) : Prop where
  isi : mg "isinstance" = none
  tup : mg "tuple" = none
  bool : mg "bool" = none
  int : mg "int" = none
  str : mg "str" = none
  len : mg "len" = none
  dict : mg "dict" = none
  sum : mg "sum" = none
  enum : mg "enumerate" = none
  range : mg "range" = none
  max : mg "max" = none
theorem ok_numbers (F : Fun K "are_numbers" "are_numbers" sNumbers f fd) (B : Blt mg) : FnOk P w K mg base CX0 1 f fd ["thing"] spNumbers := by
  refine F.ok scNumbers (fun vs H Q E h => ?_) (fun cdv A outer s H vs Q E hr h => ?_)
  · obtain ⟨v, q, rfl, _⟩ := h
    rfl
  obtain ⟨v, q, rfl, hv, qq⟩ := h
  have nd := scNumbers.nd
  refine ⟨_, pss_cons (ps_if (pt_not (pt_val (pe_callB call_isi rfl B.isi (by decide +kernel) (pa_cons (pv 0) (pa_cons (pe_bltn (v := .ty "tuple") rfl B.tup (by decide +kernel) rfl) pa_nil))))) (pss_one (ps_ret pe_bl)) pss_nil)
    (pss_cons (ps_for PassesOwn.never rfl (pi_tup (pv 0)) (pg_name (i := 1) nd rfl (Or.inl rfl))
      (pss_one (ps_if (PW.pt (pw_or (pt_val (pe_callB call_isi rfl B.isi (by decide +kernel) (pa_cons (pv 1) (pa_cons (pe_bltn (v := .ty "bool") rfl B.bool (by decide +kernel) rfl) pa_nil))))
        (pw_or1 (pt_not (pt_val (pe_callB call_isi rfl B.isi (by decide +kernel) (pa_cons (pv 1) (pa_cons (pe_bltn (v := .ty "int") rfl B.int (by decide +kernel) rfl) pa_nil)))))))) (pss_one (ps_ret pe_bl)) pss_nil)))
    (pss_one (ps_ret pe_bl))), ?_⟩
  obtain ⟨a, rfl, ha⟩ := un_P hv
  refine ⟨_, rfl, _, _, _, _, true, rfl, .ty _, .base (.tup ha), kit_ty (by decide +kernel), _, rfl, ?_⟩
  refine iteF' rfl ?_
  refine ⟨_, rfl, a, rfl, ⟨_, SqT.of ha⟩, ?_⟩
  refine for_tup (K := K) (a := a) (xs := (natZ q).map V.int) (fun i σ H' => ∃ o1, σ = [some (.ref a), o1] ∧ H' = H) ⟨none, rfl, rfl⟩ (fun i σ H' _ ⟨_, _, e⟩ => by rw [e]; exact SqT.of ha) ?_ ?_
  · rintro i x σ H1 hx ⟨o1, rfl, rfl⟩
    rw [List.getElem?_map] at hx
    obtain ⟨z, _, rfl⟩ := Option.map_eq_some_iff.mp hx
    refine ⟨_, rfl, _, _, _, _, false, rfl, .ty _, .base (.int z), kit_ty (by decide +kernel), _, rfl, ?_⟩
    refine iteF' rfl ?_
    refine ⟨_, rfl, _, _, _, _, true, rfl, .ty _, .base (.int z), kit_ty (by decide +kernel), _, rfl, ?_⟩
    refine iteF' rfl ?_
    exact ⟨_, rfl, rfl⟩
  · rintro σ H1 ⟨o1, rfl, rfl⟩
    exact qq _ (Same.refl _)

/-! ### are_puts -/
def spPuts : Sp := fun vs H Q _ => ∃ (v : V) (ps : List (List Nat × Plan)), vs = [v] ∧ Rp H (.ftup (ps.map encPut)) v ∧ (ps.map (·.1)).Pairwise (fun a b => G.lt a b = true) ∧ ∀ H', Same H H' → Q (.bl true) H'
theorem scPuts : FnScope ["thing", "ahead", "one"] ["thing"] (defScope sPuts) := ⟨rfl, rfl, rfl, by decide +kernel, rfl, by decide +kernel, by decide +kernel⟩
theorem ok_puts (F : Fun K "are_puts" "are_puts" sPuts f fd) (CN : Cal P w K mg base "are_numbers" 1 ["thing"] spNumbers) (B : Blt mg) : FnOk P w K mg base CX0 2 f fd ["thing"] spPuts := by
  refine F.ok scPuts (fun vs H Q E h => ?_) (fun cdv A outer s H vs Q E hr h => ?_)
  · obtain ⟨v, ps, rfl, _⟩ := h
    rfl
  obtain ⟨v, ps, rfl, hv, hsort, qq⟩ := h
  have nd := scPuts.nd
  refine ⟨_, pss_cons (ps_if (pt_not (pt_val (pe_callB call_isi rfl B.isi (by decide +kernel) (pa_cons (pv 0) (pa_cons (pe_bltn (v := .ty "tuple") rfl B.tup (by decide +kernel) rfl) pa_nil))))) (pss_one (ps_ret pe_bl)) pss_nil)
    (pss_cons (ps_set (i := 1) nd rfl (Or.inl rfl) pe_non)
    (pss_cons (ps_for PassesOwn.never rfl (pi_tup (pv 0)) (pg_name (i := 2) nd rfl (Or.inl rfl))
      (pss_cons (ps_if (PW.pt (pw_or (pt_not (pt_val (pe_callB call_isi rfl B.isi (by decide +kernel) (pa_cons (pv 2) (pa_cons (pe_bltn (v := .ty "tuple") rfl B.tup (by decide +kernel) rfl) pa_nil)))))
          (pw_or (pt_cmpR op_ne (pe_callB call_lenTD rfl B.len PySem.boot_len (pa_cons (pv 2) pa_nil)) pe_int (nomark _))
          (pw_or1 (pt_not (pt_val (pe_cal CN hr (pa_cons (pe_ix ix_D (pv 2) pe_int (fun _ _ => rfl)) pa_nil)))))))) (pss_one (ps_ret pe_bl)) pss_nil)
      (pss_cons (ps_if (PW.pt (pw_or (pt_not (pt_val (pe_callB call_isi rfl B.isi (by decide +kernel) (pa_cons (pe_ix ix_D (pv 2) pe_int (fun _ _ => rfl)) (pa_cons (pe_bltn (v := .ty "tuple") rfl B.tup (by decide +kernel) rfl) pa_nil)))))
          (pw_or (pt_cmpR op_ne (pe_callB call_lenTD rfl B.len PySem.boot_len (pa_cons (pe_ix ix_D (pv 2) pe_int (fun _ _ => rfl)) pa_nil)) pe_int (nomark _))
          (pw_or1 (pt_not (pt_val (pe_callB call_isi rfl B.isi (by decide +kernel) (pa_cons (pe_ix ix_D (pe_ix ix_D (pv 2) pe_int (fun _ _ => rfl)) pe_int (fun _ _ => rfl)) (pa_cons (pe_bltn (v := .ty "str") rfl B.str (by decide +kernel) rfl) pa_nil))))))))) (pss_one (ps_ret pe_bl)) pss_nil)
      (pss_cons (ps_if (PW.pt (pw_and (pt_cmpR op_notN (pv 1) pe_non (nomark _)) (pw_and1 (pt_not (pt_cmpR (op_ltT hr.units0) (pv 1) (pe_ix ix_D (pv 2) pe_int (fun _ _ => rfl)) (nomark _)))))) (pss_one (ps_ret pe_bl)) pss_nil)
      (pss_one (ps_set (i := 1) nd rfl (Or.inl rfl) (pe_ix ix_D (pv 2) pe_int (fun _ _ => rfl))))))))
    (pss_one (ps_ret pe_bl)))), ?_⟩
  obtain ⟨a, xs, o, rfl, ha, _, hl⟩ := un_ftup hv
  have hlen : xs.length = ps.length := by rw [hl.len, List.length_map]
  refine ⟨_, rfl, _, _, _, _, true, rfl, .ty _, .fTuple ha, kit_ty (by decide +kernel), _, rfl, ?_⟩
  refine iteF' rfl ?_
  refine ⟨_, rfl, a, rfl, ⟨_, SqT.fz ha⟩, ?_⟩
  refine for_tup (K := K) (a := a) (xs := xs) (fun i σ H' => ∃ av o2, σ = [some (.ref a), some av, o2] ∧ Same H H' ∧ ((i = 0 ∧ av = .non) ∨ ∃ j x, i = j + 1 ∧ ps[j]? = some x ∧ Rp H' (encP x.1) av))
    ⟨.non, none, rfl, Same.refl _, .inl ⟨rfl, rfl⟩⟩ (fun i σ H' _ ⟨_, _, _, s', _⟩ => SqT.fz (s' _ _ ha)) ?_ ?_
  · rintro i x σ H1 hx ⟨av, o2, rfl, s1, hav⟩
    obtain ⟨d, hd, hxd⟩ := hl.get hx
    rw [List.getElem?_map] at hd
    obtain ⟨⟨q, pl⟩, hk1, rfl⟩ := Option.map_eq_some_iff.mp hd
    have hx1 : Rp H1 (.tup [encP q, encPl pl]) x := hxd.up (.of s1)
    obtain ⟨p, x1, x2, rfl, hp, h1, h2⟩ := un_tup2 hx1
    refine ⟨_, rfl, _, _, _, _, true, rfl, .ty _, .base (.tup hp), kit_ty (by decide +kernel), _, rfl, ?_⟩
    refine iteF' rfl ?_
    refine ⟨_, rfl, _, _, rfl, .inl hx1, rfl, _, rfl, ?_⟩
    refine iteF' rfl ?_
    refine ⟨_, rfl, _, _, _, .inl hx1, rfl, atI_nat (j := 0) rfl, fun w1 hw1 => ?_⟩
    refine ⟨w1, q, rfl, hw1, fun H2 s2 => ⟨_, rfl, ?_⟩⟩
    refine iteF' rfl ?_
    have hx2 := hx1.up (.of s2)
    refine ⟨_, rfl, _, _, _, .inl hx2, rfl, atI_nat (j := 1) rfl, fun w2 hw2 => ?_⟩
    rw [encPl_pl] at hw2
    obtain ⟨pp, y1, y2, rfl, hpp, hy1, hy2⟩ := un_tup2 hw2
    refine ⟨_, _, _, _, true, rfl, .ty _, .base (.tup hpp), kit_ty (by decide +kernel), _, rfl, ?_⟩
    refine iteF' rfl ?_
    refine ⟨_, rfl, _, _, _, .inl hx2, rfl, atI_nat (j := 1) rfl, fun w3 hw3 => ?_⟩
    rw [encPl_pl] at hw3
    refine ⟨_, _, rfl, .inl hw3, rfl, _, rfl, ?_⟩
    refine iteF' rfl ?_
    refine ⟨_, rfl, _, _, _, .inl hx2, rfl, atI_nat (j := 1) rfl, fun w4 hw4 => ?_⟩
    rw [encPl_pl] at hw4
    refine ⟨_, _, _, .inl hw4, rfl, atI_nat (j := 0) rfl, fun w5 hw5 => ?_⟩
    rw [un_str hw5]
    refine ⟨_, _, _, _, true, rfl, .ty _, .base (.str _), kit_ty (by decide +kernel), _, rfl, ?_⟩
    refine iteF' rfl ?_
    -- the place ahead
    refine ⟨_, rfl, rfl, _, rfl, ?_⟩
    have fin : ∀ w6, Rp H2 (encP q) w6 → ∃ av' o2', ([some (.ref a), some w6, some (.ref p)] : St) = [some (.ref a), some av', o2'] ∧ Same H H2 ∧ ((i + 1 = 0 ∧ av' = .non) ∨ ∃ j x, i + 1 = j + 1 ∧ ps[j]? = some x ∧ Rp H2 (encP x.1) av') :=
      fun w6 h6 => ⟨_, _, rfl, s1.trans s2, .inr ⟨i, (q, pl), rfl, hk1, h6⟩⟩
    rcases hav with ⟨rfl, rfl⟩ | ⟨j, ⟨q0, pl0⟩, rfl, hj, hq0⟩
    · refine iteF' rfl ?_
      refine iteF' rfl ?_
      exact ⟨_, rfl, _, _, _, .inl hx2, rfl, atI_nat (j := 0) rfl, fin⟩
    · obtain ⟨b, rfl, hb⟩ := un_P (hq0.up (.of s2))
      refine iteT' rfl ?_
      refine ⟨_, rfl, _, rfl, _, _, _, .inl hx2, rfl, atI_nat (j := 0) rfl, fun w6 hw6 => ?_⟩
      obtain ⟨c, rfl, hc⟩ := un_P hw6
      refine ⟨b, c, natZ q0, natZ q, rfl, rfl, SqT.of hb, SqT.of hc, _, rfl, ?_⟩
      rw [lexLt_ints]
      have lt' : G.lt q0 q = true := by
        have hjl := (List.getElem?_eq_some_iff.mp hj)
        have hil := (List.getElem?_eq_some_iff.mp hk1)
        have z := List.pairwise_iff_getElem.mp hsort j (j + 1) (by rw [List.length_map]; exact hjl.1) (by rw [List.length_map]; exact hil.1) (by omega)
        rw [List.getElem_map, List.getElem_map, hjl.2, hil.2] at z
        exact z
      rw [lt']
      refine iteF' rfl ?_
      exact ⟨_, rfl, _, _, _, .inl hx2, rfl, atI_nat (j := 0) rfl, fin⟩
  · rintro σ H1 ⟨av, o2, rfl, s1, _⟩
    exact qq _ s1
end
end L2.Gs
set_option Elab.async false
set_option linter.all false
set_option maxRecDepth 100000
set_option maxHeartbeats 4000000
namespace L2.Gs
open PySem PySem.Spec PyProof.Rows
open _root_.G (Tre Plan Trees)

/-! ### puts as a dict -/
def keyP (q : List Nat) : List Key := q.map fun k => Sum.inl ((k : Nat) : Int)
theorem keyP_kV (q : List Nat) : (keyP q).map kV = (natZ q).map V.int := by
  unfold keyP natZ
  rw [List.map_map, List.map_map]
  rfl
theorem keyP_inj : ∀ {q r : List Nat}, keyP q = keyP r → q = r
  | [], [], _ => rfl
  | [], _ :: _, e => by simp [keyP] at e
  | _ :: _, [], e => by simp [keyP] at e
  | x :: xs, y :: ys, e => by
    have e' : (Sum.inl ((x : Nat) : Int) : Key) :: keyP xs = Sum.inl ((y : Nat) : Int) :: keyP ys := e
    injection e' with e1 e2
    have e3 : ((x : Nat) : Int) = ((y : Nat) : Int) := Sum.inl.inj e1
    rw [keyP_inj e2, show x = y by omega]
/-- the dict's pairs are the puts -/
abbrev KP (H : Hp) : List (List Nat × Plan) → List (List Key × V) → Prop := Paired fun x kv => kv.1 = keyP x.1 ∧ Rp H (encPl x.2) kv.2
theorem KP.of {K : PySem.W.Frag} {H : Hp} : ∀ {ps : List (List Nat × Plan)} {vs : List V}, RpL H (ps.map encPut) vs →
    ∃ (as : List Addr) (kvs : List (List Key × V)), vs = as.map V.ref ∧ KP H ps kvs ∧ Paired (fun p kv => ∃ b, SqT K H p [.ref b, kv.2] ∧ H b = some (.tup (kv.1.map kV))) as kvs
  | [], vs, h => by rw [ul_nil h]; exact ⟨[], [], rfl, .nil, .nil⟩
  | x :: ps, vs, h => by
    obtain ⟨v, r, rfl, h1, h2⟩ := ul_cons h
    obtain ⟨as, kvs, rfl, k1, k2⟩ := KP.of (K := K) h2
    obtain ⟨p, y1, y2, rfl, hp, hy1, hy2⟩ := un_tup2 h1
    obtain ⟨b, rfl, hb⟩ := un_P hy1
    exact ⟨p :: as, (keyP x.1, y2) :: kvs, rfl, .cons ⟨rfl, hy2⟩ k1, .cons ⟨b, SqT.of hp, by rw [keyP_kV]; exact hb⟩ k2⟩
theorem KP.mono {H H' : Hp} (m : TM H H') {ps : List (List Nat × Plan)} {kvs : List (List Key × V)} (h : KP H ps kvs) : KP H' ps kvs := Paired.mapP h fun _ _ z => ⟨z.1, z.2.up m⟩
theorem KP.keys {H : Hp} : ∀ {ps : List (List Nat × Plan)} {kvs : List (List Key × V)}, KP H ps kvs → kvs.map (·.1) = ps.map fun x => keyP x.1
  | _, _, .nil => rfl
  | _, _, .cons h t => by rw [List.map_cons, List.map_cons, h.1, KP.keys t]
theorem KP.look {H : Hp} {q : List Nat} : ∀ {ps : List (List Nat × Plan)} {kvs : List (List Key × V)}, KP H ps kvs →
    (valV kvs (keyP q) = none ∧ q ∉ ps.map (·.1)) ∨ ∃ v x, valV kvs (keyP q) = some v ∧ x ∈ ps ∧ x.1 = q ∧ Rp H (encPl x.2) v
  | _, _, .nil => .inl ⟨rfl, by simp⟩
  | _, _, .cons (a := x) (b := kv) h t => by
    by_cases e : x.1 = q
    · refine .inr ⟨kv.2, x, ?_, List.mem_cons_self, e, h.2⟩
      exact valV_pos (by rw [h.1, e])
    · have e' : ¬ kv.1 = keyP q := fun z => e (keyP_inj (by rw [← h.1]; exact z))
      rcases KP.look (q := q) t with ⟨a, b⟩ | ⟨v, y, a, b, c, d⟩
      · exact .inl ⟨by rw [valV_neg e']; exact a, by rw [List.map_cons, List.mem_cons, not_or]; exact ⟨fun z => e z.symm, b⟩⟩
      · exact .inr ⟨v, y, by rw [valV_neg e']; exact a, List.mem_cons_of_mem _ b, c, d⟩
theorem mergeT_nodup : ∀ (more acc : List (List Key × V)), ((acc ++ more).map (·.1)).Nodup → mergeT acc more = acc ++ more
  | [], acc, _ => by simp [mergeT]
  | p :: r, acc, h => by
    have hn : valV acc p.1 = none := by
      cases e : valV acc p.1 with
      | none => rfl
      | some v =>
        have hm := valV_in e
        rw [List.map_append, List.map_cons] at h
        exact absurd hm fun z => (List.nodup_append.mp h).2.2 _ z _ List.mem_cons_self rfl
    show mergeT (putK acc p.1 p.2) r = acc ++ p :: r
    rw [putK_new _ hn, mergeT_nodup r (acc ++ [(p.1, p.2)]) (by simpa using h)]
    simp
theorem KP.merge {H : Hp} {ps : List (List Nat × Plan)} {kvs : List (List Key × V)} (h : KP H ps kvs) (n : (ps.map (·.1)).Nodup) : mergeT [] kvs = kvs := by
  rw [mergeT_nodup kvs [] ?_, List.nil_append]
  rw [List.nil_append, h.keys]
  have e : (ps.map fun x => keyP x.1) = (ps.map (·.1)).map keyP := by rw [List.map_map]; rfl
  rw [e]
  refine List.pairwise_map.mpr (n.imp fun {a b} hne z => hne (keyP_inj z))
theorem KP.mem {H : Hp} {ps : List (List Nat × Plan)} {kvs : List (List Key × V)} (h : KP H ps kvs) {i : Nat} {k : List Key} {v : V} (e : kvs[i]? = some (k, v)) : ∃ x ∈ ps, k = keyP x.1 := by
  have hm : k ∈ kvs.map (·.1) := List.mem_map.mpr ⟨(k, v), List.mem_of_getElem? e, rfl⟩
  rw [h.keys] at hm
  obtain ⟨x, hx, ex⟩ := List.mem_map.mp hm
  exact ⟨x, hx, ex.symm⟩

/-! ### the library's shape of places -/
theorem toPys_map : ∀ ds : List D, toPys ds = ds.map toPy
  | [] => by rw [toPys]; rfl
  | d :: ds => by rw [toPys, toPys_map ds]; rfl
theorem lay_ints : ∀ q : List Nat, PyData.canLayAll0 ((q.map fun k => D.int (k : Nat)).map toPy) = true ∧ PyData.depthAll ((q.map fun k => D.int (k : Nat)).map toPy) = 0
  | [] => by simp [PyData.canLayAll0, PyData.depthAll]
  | k :: q => by
    have h := lay_ints q
    simp only [List.map_cons, toPy, PyData.canLayAll0, PyData.canLay0, PyData.depthAll, PyData.depth, h.1, h.2]
    simp
theorem lay_P (q : List Nat) : PyData.canLay0 (toPy (encP q)) = true ∧ PyData.depth (toPy (encP q)) = 1 := by
  have h := lay_ints q
  unfold encP
  rw [toPy, toPys_map]
  simp only [PyData.canLay0, PyData.depth, h.1, h.2]
  simp
theorem shaped_P (q : List Nat) : SeqAt.shaped (toPy (encP q)) = true := by
  have h := lay_P q
  unfold SeqAt.shaped
  rw [h.1, h.2]
  rfl
theorem lay_Ps : ∀ qs : List (List Nat), PyData.canLayAll0 ((qs.map encP).map toPy) = true ∧ PyData.depthAll ((qs.map encP).map toPy) ≤ 1
  | [] => by simp [PyData.canLayAll0, PyData.depthAll]
  | q :: qs => by
    have h := lay_Ps qs
    have h1 := lay_P q
    simp only [List.map_cons, PyData.canLayAll0, PyData.depthAll, h.1, h1.1, h1.2]
    refine ⟨rfl, ?_⟩
    omega
theorem shaped_Ps (qs : List (List Nat)) : SeqAt.shaped (.list ((qs.map encP).map toPy)) = true := by
  have h := lay_Ps qs
  unfold SeqAt.shaped
  simp only [PyData.canLay0, PyData.depth, h.1, Bool.true_and]
  exact decide_eq_true (by omega)

/-! ### texts in a list -/
theorem un_strs {H : Hp} : ∀ {ks : List Str} {vs : List V}, RpL H (ks.map D.str) vs → vs = ks.map V.str
  | [], vs, h => ul_nil h
  | k :: ks, vs, h => by
    obtain ⟨v, r, rfl, h1, h2⟩ := ul_cons h
    rw [un_str h1, un_strs h2]
    rfl
theorem flat_strs (ks : List Str) : (ks.map V.str).all flatV = true := by
  rw [List.all_eq_true]
  intro v hv
  obtain ⟨k, _, rfl⟩ := List.mem_map.mp hv
  rfl
theorem inV_strs (k : Str) (ks : List Str) : inV (.str k) (ks.map V.str) = decide (k ∈ ks) := by
  unfold inV
  induction ks with
  | nil => rfl
  | cons a r ih =>
    rw [List.map_cons, List.any_cons, ih]
    show ((a == k) || _) = _
    by_cases e : a = k
    · subst e; simp
    · rw [beq_eq_false_iff_ne.mpr e, Bool.false_or]
      by_cases m : k ∈ r
      · rw [decide_eq_true m, decide_eq_true (List.mem_cons_of_mem _ m)]
      · rw [decide_eq_false m, decide_eq_false (fun z => (List.mem_cons.mp z).elim (fun q => e q.symm) m)]

section
variable {P : Program} {w : World} {K : PySem.W.Frag} {mg : Str → Option Value} {base : Heap} {f : Addr} {fd : FuncData}
/-! ### put_well -/
def spWell : Sp := fun vs H Q _ => ∃ (bv tv pv : V) (top : Str) (ts : Trees) (t : Tre) (ps : List (List Nat × Plan)), vs = [bv, tv, pv] ∧ Rp H (encB top ts) bv ∧ G.TreesOk ts ∧ Rp H (encT t) tv ∧ G.TreeOk t ∧ Rp H (.ftup (ps.map encPut)) pv ∧
  (ps.map (·.1)).Sublist (G.places t) ∧ (∀ x ∈ ps, x.2.key ∈ G.takers ts (G.get t x.1)) ∧ (∀ q ∈ G.places t, ∀ g m, G.want (G.get t q) = some (g, m, true) → q ∈ ps.map (·.1)) ∧ ∀ H', Same H H' → Q (.bl true) H'
abbrev nWell : List Str := ["book", "tree", "puts", "told", "place", "piece", "want"]
theorem scWell : FnScope nWell ["book", "tree", "puts"] (defScope sWell) := ⟨rfl, rfl, rfl, by decide +kernel, rfl, by decide +kernel, by decide +kernel⟩
theorem ok_well (F : Fun K "put_well" "put_well" sWell f fd) (CP : Cal P w K mg base "places" 6 ["tree"] (spPlaces 5)) (CA : Cal P w K mg base "piece_at" 2 ["tree", "place"] spPiece) (CW : Cal P w K mg base "wanted" 1 ["piece"] spWanted)
    (CT : Cal P w K mg base "takers" 10 ["book", "piece"] spTakers) (B : Blt mg) : FnOk P w K mg base CX0 11 f fd ["book", "tree", "puts"] spWell := by
  refine F.ok scWell (fun vs H Q E h => ?_) (fun cdv A outer s H vs Q E hr h => ?_)
  · obtain ⟨bv, tv, pv, top, ts, t, ps, rfl, _⟩ := h
    rfl
  obtain ⟨bv, tv, puv, top, ts, t, ps, rfl, hb, ok, ht, tok, hpv, hsub, htk, hmu, q⟩ := h
  have nd := scWell.nd
  have hu := hu_of hr
  have hr1 : Room 1 _ := hr.mono (by decide)
  have hr2 : Room 2 _ := hr.mono (by decide)
  have hr6 : Room 6 _ := hr.mono (by decide)
  have hu64 := hr.units
  have hu65 : (A.deeper (envOfC "put_well" (defScope sWell) s.heap.objs.size f cdv)).units + 65 < cLine := by have := hr.un; omega
  refine ⟨_, pss_cons (ps_set (i := 3) nd rfl (Or.inl rfl) (pe_callTy (call_dictFT rfl hu64) rfl B.dict (by decide +kernel) (pa_cons (pv 2) pa_nil)))
    (pss_cons (ps_for PassesOwn.never rfl (pi_list (pe_cal CP hr6 (pa_cons (pv 1) pa_nil))) (pg_name (i := 4) nd rfl (Or.inl rfl))
      (pss_cons (ps_set (i := 5) nd rfl (Or.inl rfl) (pe_cal CA hr2 (pa_cons (pv 1) (pa_cons (pv 4) pa_nil))))
      (pss_cons (ps_set (i := 6) nd rfl (Or.inl rfl) (pe_cal CW hr1 (pa_cons (pv 5) pa_nil)))
      (pss_cons (ps_if (PW.pt (pw_and (pt_cmpR op_notN (pv 6) pe_non (nomark _)) (pw_and (pt_val (pe_ix ix_D (pv 6) pe_int (fun _ _ => rfl))) (pw_and1 (pt_cmp (pc_dnotin hu (pv 4) (pv 3)) rfl))))) (pss_one (ps_ret pe_bl)) pss_nil)
      (pss_one (ps_if (PW.pt (pw_and (pt_cmp (pc_din hu (pv 4) (pv 3)) rfl) (pw_and1 (pt_cmpR op_notIn_seq (pe_ix ix_D (pe_dget hu (pv 3) (pv 4) (fun _ _ => rfl)) pe_int (fun _ _ => rfl)) (pe_cal CT hr (pa_cons (pv 0) (pa_cons (pv 5) pa_nil))) (by rfl))))) (pss_one (ps_ret pe_bl)) pss_nil))))))
    (pss_one (ps_ret (pe_cmpR op_eq (pe_callB call_lenLD rfl B.len PySem.boot_len (pa_cons (pe_lock (pe_lc (own := [("place", 4)]) (g := gName 4) (tt := tTest (tOp (rNotInD K) (tVar 4) (tCall (spPlaces 5) [] E0 (tCons (tVar 1) tNil)))) rfl nd (pi_keys (pv 3)) (blkOk_by (own := [("place", 4)]) (N := nWell) (sc := defScope sWell) (by decide +kernel))
      (fun _ _ _ _ _ => pg_name (i := 4) nd rfl (Or.inl rfl)) (fun _ _ _ _ _ => pts_one (pt_cmpR (op_notInD hu65) (pv 4) (pe_cal CP hr6 (pa_cons (pv 1) pa_nil)) (by rfl))) (fun _ _ _ _ _ => pv 4))) pa_nil)) pe_int (nomark _))))), ?_⟩
  have hnd : (ps.map (·.1)).Nodup := hsub.nodup (G.places_nodup t)
  have hcnt := tok.cn
  -- told = dict(puts)
  obtain ⟨pa, pvs, po, rfl, hpa, hpo, hpl⟩ := un_ftup hpv
  obtain ⟨as, kvs, rfl, kp, kk⟩ := KP.of (K := K) hpl
  refine ⟨_, rfl, pa, po, as, kvs, rfl, hpa, hpo, kk, fun d hd => ?_⟩
  rw [kp.merge hnd]
  have s1 : Same H (upd H d (.dT kvs)) := sNew hd
  have hd1 : upd H d (.dT kvs) d = some (.dT kvs) := upd_same
  generalize upd H d (.dT kvs) = H1 at s1 hd1
  refine ⟨_, rfl, tv, t, rfl, ht.up (.of s1), tok.dep, by omega, by omega, fun r1 H2 s2 n2 l2 => ?_⟩
  obtain ⟨ws, hws, hwl⟩ := l2
  have hwlen : ws.length = (G.places t).length := by rw [hwl.len, List.length_map]
  have s02 : Same H H2 := s1.trans s2
  have hd2 := s2 _ _ hd1
  have kp2 := kp.mono (.of s02)
  refine ⟨r1, rfl, ⟨_, SqL.of hws⟩, ?_⟩
  refine for_list (K := K) (a := r1) (xs := ws) (fun i σ H' => ∃ o4 o5 o6, σ = [some bv, some tv, some (.ref pa), some (.ref d), o4, o5, o6] ∧ Same H2 H') ⟨none, none, none, rfl, Same.refl _⟩ (fun i σ H' _ ⟨_, _, _, _, s'⟩ => SqL.of (s' _ _ hws)) ?_ ?_
  · rintro i x σ H3 hx ⟨o4, o5, o6, rfl, s3⟩
    obtain ⟨dd, hdd, hxd⟩ := hwl.get hx
    rw [List.getElem?_map] at hdd
    obtain ⟨pl, hpl1, rfl⟩ := Option.map_eq_some_iff.mp hdd
    have hplm : pl ∈ G.places t := List.mem_of_getElem? hpl1
    have hx3 := hxd.up (.of s3)
    refine ⟨_, rfl, _, rfl, tv, x, t, pl, rfl, ht.up (.of (s02.trans s3)), hx3, G.places_ok t pl hplm, fun pc H4 s4 hpc => ?_⟩
    refine ⟨_, rfl, pc, _, rfl, hpc, fun wv H5 s5 hw => ?_⟩
    have s25 : Same H2 H5 := s3.trans (s4.trans s5)
    have hd5 := s25 _ _ hd2
    obtain ⟨b, rfl, hb5⟩ := un_P (hxd.up (.of s25))
    rw [← keyP_kV] at hb5
    have dg : DGet H5 d (.ref b) (valV kvs (keyP pl)) := DGet.t hd5 hb5
    have look := (kp2.mono (.of s25)).look (q := pl)
    -- what comes behind the first test
    have second : (tIfS (tAnd (tB (tDIn (tVar 4) (tVar 3))) (tTest (tOp (rIn K true) (tOp rIxD (tDGet (tVar 3) (tVar 4)) (tC (.int 0))) (tCall spTakers [] E0 (tCons (tVar 0) (tCons (tVar 5) tNil)))))) (tRet (tC (.bl false))) tNext)
        { nx := fun σ H' => ∃ o4 o5 o6, σ = [some bv, some tv, some (.ref pa), some (.ref d), o4, o5, o6] ∧ Same H2 H', rt := Q, bk := fun _ _ => True, ct := fun _ _ => True } [some bv, some tv, some (.ref pa), some (.ref d), some (.ref b), some pc, some wv] H5 := by
      refine ⟨_, rfl, _, rfl, d, _, rfl, dg, _, rfl, ?_⟩
      rcases look with ⟨e1, _⟩ | ⟨v1, x1, e1, hx1, ex1, hv1⟩
      · rw [e1]
        refine iteF' rfl ?_
        refine iteF' rfl ?_
        exact ⟨_, _, _, rfl, s25⟩
      · rw [e1]
        refine iteT' rfl ?_
        rw [encPl_pl] at hv1
        refine ⟨_, rfl, _, rfl, d, v1, rfl, by rw [← e1]; exact dg, _, _, _, .inl hv1, rfl, atI_nat (j := 0) rfl, fun kv hkv => ?_⟩
        rw [un_str hkv]
        refine ⟨_, rfl, _, rfl, bv, pc, top, ts, _, rfl, hb.up (.of (s02.trans s25)), ok, hpc.up (.of s5), fun l6 H6 s6 n6 hl6 => ?_⟩
        obtain ⟨vs6, hvs6, hvl6⟩ := hl6
        rw [un_strs hvl6] at hvs6
        refine ⟨l6, _, rfl, .inl (SqL.of hvs6), rfl, flat_strs _, _, rfl, ?_⟩
        have hin : x1.2.key ∈ G.takers ts (G.get t pl) := by rw [← ex1]; exact htk x1 hx1
        refine iteF' ?_ ?_
        · show (if true = true then !inV (.str x1.2.key) ((G.takers ts (G.get t pl)).map V.str) else inV (.str x1.2.key) ((G.takers ts (G.get t pl)).map V.str)) = false
          rw [if_pos rfl, inV_strs, decide_eq_true hin]
          rfl
        · exact ⟨_, _, _, rfl, s25.trans s6⟩
    refine ⟨_, rfl, rfl, _, rfl, ?_⟩
    cases hwant : G.want (G.get t pl) with
    | none =>
      rw [hwant] at hw
      have ew := un_non hw
      subst ew
      refine iteF' rfl ?_
      refine iteF' rfl ?_
      exact second
    | some gmb =>
      obtain ⟨g, m, bb⟩ := gmb
      rw [hwant] at hw
      obtain ⟨wp, wvs, rfl, _, _⟩ := un_tup hw
      refine iteT' rfl ?_
      refine ⟨_, rfl, _, _, _, .inl hw, rfl, atI_nat (j := 2) rfl, fun w2 hw2 => ?_⟩
      rw [un_bl hw2]
      refine ⟨_, rfl, ?_⟩
      cases bb with
      | false =>
        refine iteF' rfl ?_
        refine iteF' rfl ?_
        exact second
      | true =>
        refine iteT' rfl ?_
        refine ⟨_, rfl, _, rfl, d, _, rfl, dg, _, rfl, ?_⟩
        rcases look with ⟨_, e2⟩ | ⟨v1, x1, e1, _⟩
        · exact absurd (hmu pl hplm g m hwant) e2
        · rw [e1]
          refine iteF' rfl ?_
          exact second
  · rintro σ H3 ⟨o4, o5, o6, rfl, s3⟩
    have hd3 := s3 _ _ hd2
    refine ⟨d, .dT kvs, hd3, trivial, fun od => ?_⟩
    have s03 : Same H H3 := s02.trans s3
    have tmL : TM H3 (upd H3 d (.frz od (.dT kvs))) := .upd (.dT hd3)
    have hdL : upd H3 d (.frz od (.dT kvs)) d = some (.frz od (.dT kvs)) := upd_same
    have sL : ∀ b o, H b = some o → upd H3 d (.frz od (.dT kvs)) b = some o := fun b o e => by rw [upd_ne (ne_of_none e hd)]; exact s03 b o e
    generalize upd H3 d (.frz od (.dT kvs)) = HL at tmL hdL sL
    refine ⟨_, rfl, d, od, rfl, .inr ⟨kvs, hdL, fun D0 hD0 => ?_⟩⟩
    refine lc_it (walk_keysT (d := d) (o := od) (kvs := kvs)) (fun i H' => Same HL H' ∧ H' D0 = some (.lst [])) ⟨sNew hD0, upd_same⟩ (fun i H' _ ⟨s', _⟩ => s' _ _ hdL) ?_ ?_
    · rintro i x H4 H4' hi ⟨s4, h4⟩ ⟨rfl, k, v, qa, hk, rfl, hqa⟩
      obtain ⟨x1, hx1, rfl⟩ := kp2.mem hk
      rw [keyP_kV] at hqa
      have hx4 := rp_P hqa
      have hplm : x1.1 ∈ G.places t := hsub.subset (List.mem_map.mpr ⟨x1, hx1, rfl⟩)
      refine ⟨rfl, ?_⟩
      refine ⟨_, rfl, _, rfl, tv, t, rfl, ((ht.up (.of s03)).up tmL).up (.of s4), tok.dep, by omega, by omega, fun l5 H5 s5 n5 hl5 => ?_⟩
      obtain ⟨vs5, hvs5, hvl5⟩ := hl5
      refine ⟨toPy (encP x1.1), ((G.places t).map encP).map toPy, Rp.dp _ _ (hx4.up (.of s5)), .lst (SqL.of hvs5) (by rw [← toPys_map]; exact RpL.dp _ _ hvl5), shaped_P _, shaped_Ps _, _, rfl, ?_⟩
      refine iteF' ?_ ?_
      · have e : (((G.places t).map encP).map toPy).any (fun z => PyData.eqv z (toPy (encP x1.1))) = true := by
          rw [List.any_eq_true]
          exact ⟨_, List.mem_map.mpr ⟨_, List.mem_map.mpr ⟨x1.1, hplm, rfl⟩, rfl⟩, SeqAt.eqv_refl _ (lay_P x1.1).1⟩
        rw [e]
        rfl
      · exact ⟨s4.trans s5, s5 _ _ h4⟩
    · rintro H4 ⟨s4, h4⟩
      refine ⟨s4 _ _ hdL, D0, [], rfl, ⟨[], by rw [upd_ne (fun e => by rw [e, hdL] at hD0; cases hD0)]; exact h4, rl_nil⟩, rfl, ?_⟩
      refine q _ fun b o e => ?_
      rw [upd_ne (ne_of_none e hd)]
      exact s4 _ _ (sL b o e)
end
end L2.Gs
set_option Elab.async false
set_option linter.all false
set_option maxRecDepth 100000
set_option maxHeartbeats 4000000
namespace L2.Gs
open PySem PySem.Spec PyProof.Rows
open _root_.G (Tre Plan Trees)
section
variable {P : Program} {w : World} {K : PySem.W.Frag} {mg : Str → Option Value} {base : Heap} {f : Addr} {fd : FuncData}

/-! ### is_plan -/
def spIsPlan (n : Nat) : Sp := fun vs H Q _ => ∃ (bv v : V) (top : Str) (ts : Trees) (p : Plan), vs = [bv, v] ∧ Rp H (encB top ts) bv ∧ G.TreesOk ts ∧ Rp H (encPl p) v ∧ G.PlanOk ts n p ∧ ∀ H', Same H H' → Q (.bl true) H'
theorem scIsPlan : FnScope ["book", "thing", "tree", "place", "plan"] ["book", "thing"] (defScope sIsPlan) := ⟨rfl, rfl, rfl, by decide +kernel, rfl, by decide +kernel, by decide +kernel⟩
theorem ok_isPlan_step {n : Nat} (F : Fun K "is_plan" "is_plan" sIsPlan f fd) (CP : Cal P w K mg base "are_puts" 2 ["thing"] spPuts) (CT : Cal P w K mg base "tree_of" 1 ["book", "key"] spTreeOf) (CW : Cal P w K mg base "put_well" 11 ["book", "tree", "puts"] spWell)
    (CI : Cal P w K mg base "is_plan" (n + 11) ["book", "thing"] (spIsPlan n)) (B : Blt mg) : FnOk P w K mg base CX0 (n + 1 + 11) f fd ["book", "thing"] (spIsPlan (n + 1)) := by
  refine F.ok (k := n + 11) scIsPlan (fun vs H Q E h => ?_) (fun cdv A outer s H vs Q E hr h => ?_)
  · obtain ⟨bv, v, top, ts, p, rfl, _⟩ := h
    rfl
  obtain ⟨bv, v, top, ts, p, rfl, hb, ok, hv, hp, q⟩ := h
  have nd := scIsPlan.nd
  have hr1 : Room 1 _ := hr.mono (by omega)
  have hr2 : Room 2 _ := hr.mono (by omega)
  have hr11 : Room 11 _ := hr.mono (by omega)
  refine ⟨_, pss_cons (ps_if (PW.pt (pw_or (pt_not (pt_val (pe_callB call_isi rfl B.isi (by decide +kernel) (pa_cons (pv 1) (pa_cons (pe_bltn (v := .ty "tuple") rfl B.tup (by decide +kernel) rfl) pa_nil)))))
        (pw_or (pt_cmpR op_ne (pe_callB call_lenTD rfl B.len PySem.boot_len (pa_cons (pv 1) pa_nil)) pe_int (nomark _))
        (pw_or (pt_not (pt_val (pe_callB call_isi rfl B.isi (by decide +kernel) (pa_cons (pe_ix ix_D (pv 1) pe_int (fun _ _ => rfl)) (pa_cons (pe_bltn (v := .ty "str") rfl B.str (by decide +kernel) rfl) pa_nil)))))
        (pw_or1 (pt_not (pt_val (pe_cal CP hr2 (pa_cons (pe_ix ix_D (pv 1) pe_int (fun _ _ => rfl)) pa_nil))))))))) (pss_one (ps_ret pe_bl)) pss_nil)
    (pss_cons (ps_set (i := 2) nd rfl (Or.inl rfl) (pe_cal CT hr1 (pa_cons (pv 0) (pa_cons (pe_ix ix_D (pv 1) pe_int (fun _ _ => rfl)) pa_nil))))
    (pss_cons (ps_if (PW.pt (pw_or (pt_cmpR op_isN (pv 2) pe_non (nomark _)) (pw_or1 (pt_not (pt_val (pe_cal CW hr11 (pa_cons (pv 0) (pa_cons (pv 2) (pa_cons (pe_ix ix_D (pv 1) pe_int (fun _ _ => rfl)) pa_nil))))))))) (pss_one (ps_ret pe_bl)) pss_nil)
    (pss_cons (ps_for PassesOwn.never rfl (pi_tup (pe_ix ix_D (pv 1) pe_int (fun _ _ => rfl))) (pg_tup rfl (pgs_cons (pg_name (i := 3) nd rfl (Or.inl rfl)) (pgs_cons (pg_name (i := 4) nd rfl (Or.inl rfl)) pgs_nil)))
      (pss_one (ps_if (pt_not (pt_val (pe_cal CI hr (pa_cons (pv 0) (pa_cons (pv 4) pa_nil))))) (pss_one (ps_ret pe_bl)) pss_nil)))
    (pss_one (ps_ret pe_bl))))), ?_⟩
  cases hp with
  | @mk _ key puts t h1 h2 h3 h4 h5 =>
  rw [encPl_eq] at hv
  obtain ⟨pa, x1, x2, rfl, hpa, hx1, hx2⟩ := un_tup2 hv
  have tok := ok.ok _ _ (G.treeOf_mem h1)
  refine ⟨_, rfl, _, _, _, _, true, rfl, .ty _, .base (.tup hpa), kit_ty (by decide +kernel), _, rfl, ?_⟩
  refine iteF' rfl ?_
  refine ⟨_, rfl, _, _, rfl, .inl hv, rfl, _, rfl, ?_⟩
  refine iteF' rfl ?_
  refine ⟨_, rfl, _, _, _, .inl hv, rfl, atI_nat (j := 0) rfl, fun w1 hw1 => ?_⟩
  rw [un_str hw1]
  refine ⟨_, _, _, _, true, rfl, .ty _, .base (.str _), kit_ty (by decide +kernel), _, rfl, ?_⟩
  refine iteF' rfl ?_
  refine ⟨_, rfl, _, _, _, .inl hv, rfl, atI_nat (j := 1) rfl, fun w2 hw2 => ?_⟩
  refine ⟨w2, puts, rfl, hw2, List.Pairwise.sublist h2 (G.places_sorted t), fun H1 s1 => ⟨_, rfl, ?_⟩⟩
  refine iteF' rfl ?_
  have hv1 := hv.up (.of s1)
  refine ⟨_, rfl, _, rfl, _, _, _, .inl hv1, rfl, atI_nat (j := 0) rfl, fun w3 hw3 => ?_⟩
  rw [un_str hw3]
  refine ⟨bv, top, ts, key, t, rfl, hb.up (.of s1), h1, fun tv H2 s2 ht => ?_⟩
  have s02 := s1.trans s2
  refine ⟨_, rfl, rfl, _, rfl, ?_⟩
  obtain ⟨tp, tr, rfl, htp⟩ := un_tag ht
  refine iteF' rfl ?_
  have hv2 := hv.up (.of s02)
  refine ⟨_, rfl, _, rfl, _, rfl, _, _, _, .inl hv2, rfl, atI_nat (j := 1) rfl, fun w4 hw4 => ?_⟩
  refine ⟨bv, _, w4, top, ts, t, puts, rfl, hb.up (.of s02), ok, ht, tok, hw4, h2, h3, h4, fun H3 s3 => ⟨_, rfl, ?_⟩⟩
  refine iteF' rfl ?_
  have s03 := s02.trans s3
  have hv3 := hv.up (.of s03)
  refine ⟨_, rfl, _, _, _, .inl hv3, rfl, atI_nat (j := 1) rfl, fun w5 hw5 => ?_⟩
  obtain ⟨a, xs, o, rfl, ha, _, hl⟩ := un_ftup hw5
  refine ⟨a, rfl, ⟨_, SqT.fz ha⟩, ?_⟩
  refine for_tup (K := K) (a := a) (xs := xs) (fun i σ H' => ∃ o3 o4, σ = [some bv, some (.ref pa), some (.ref tp), o3, o4] ∧ Same H3 H') ⟨none, none, rfl, Same.refl _⟩ (fun i σ H' _ ⟨_, _, _, s'⟩ => SqT.fz (s' _ _ ha)) ?_ ?_
  · rintro i x σ H4 hx ⟨o3, o4, rfl, s4⟩
    obtain ⟨d, hd, hxd⟩ := hl.get hx
    rw [List.getElem?_map] at hd
    obtain ⟨⟨q1, pl⟩, hk1, rfl⟩ := Option.map_eq_some_iff.mp hd
    have hx4 : Rp H4 (.tup [encP q1, encPl pl]) x := hxd.up (.of s4)
    obtain ⟨p, y1, y2, rfl, hp, hy1, hy2⟩ := un_tup2 hx4
    refine ⟨p, _, rfl, SqT.of hp, rfl, _, _, rfl, _, _, rfl, rfl, ?_⟩
    refine ⟨_, rfl, _, rfl, bv, y2, top, ts, pl, rfl, hb.up (.of (s03.trans s4)), ok, hy2, h5 _ (List.mem_of_getElem? hk1), fun H5 s5 => ⟨_, rfl, ?_⟩⟩
    refine iteF' rfl ?_
    exact ⟨_, _, rfl, s4.trans s5⟩
  · rintro σ H4 ⟨o3, o4, rfl, s4⟩
    exact q _ (s03.trans s4)
theorem ok_isPlan (S : Std K mg "is_plan" sIsPlan ["book", "thing"] f fd) (CP : Cal P w K mg base "are_puts" 2 ["thing"] spPuts) (CT : Cal P w K mg base "tree_of" 1 ["book", "key"] spTreeOf) (CW : Cal P w K mg base "put_well" 11 ["book", "tree", "puts"] spWell) (B : Blt mg) :
    ∀ n, Cal P w K mg base "is_plan" (n + 11) ["book", "thing"] (spIsPlan n)
  | 0 => S.cal (fn_never fun vs H Q E h => by
      obtain ⟨bv, v, top, ts, p, _, _, _, _, hp, _⟩ := h
      cases hp)
  | n + 1 => S.cal (ok_isPlan_step S.fn CP CT CW (ok_isPlan S CP CT CW B n) B)

/-! ### is_whole -/
def spWhole : Sp := fun vs H Q _ => ∃ (bv v : V) (top : Str) (ts : Trees) (p : Plan) (t : Tre), vs = [bv, v] ∧ Rp H (encB top ts) bv ∧ G.TreesOk ts ∧ Rp H (encPl p) v ∧ G.treeOf ts p.key = some t ∧ ∀ H', Same H H' → Q (.bl (decide (G.called t = (false, top)))) H'
theorem scWhole : FnScope ["book", "plan", "tree"] ["book", "plan"] (defScope sWhole) := ⟨rfl, rfl, rfl, by decide +kernel, rfl, by decide +kernel, by decide +kernel⟩
theorem ok_whole (F : Fun K "is_whole" "is_whole" sWhole f fd) (CT : Cal P w K mg base "tree_of" 1 ["book", "key"] spTreeOf) (CG : Cal P w K mg base "is_graft" 9 ["tree"] (spGraft 5)) (CN : Cal P w K mg base "name_of" 9 ["tree"] (spName 5)) :
    FnOk P w K mg base CX0 10 f fd ["book", "plan"] spWhole := by
  refine F.ok scWhole (fun vs H Q E h => ?_) (fun cdv A outer s H vs Q E hr h => ?_)
  · obtain ⟨bv, v, top, ts, p, t, rfl, _⟩ := h
    rfl
  obtain ⟨bv, v, top, ts, p, t, rfl, hb, ok, hv, ht, q⟩ := h
  have nd := scWhole.nd
  refine ⟨_, pss_cons (ps_set (i := 2) nd rfl (Or.inl rfl) (pe_cal CT (hr.mono (by decide)) (pa_cons (pv 0) (pa_cons (pe_ix ix_D (pv 1) pe_int (fun _ _ => rfl)) pa_nil))))
    (pss_one (ps_ret (pe_and (pe_not (pe_cal CG hr (pa_cons (pv 2) pa_nil))) (pe_one (pe_cmpR op_eq (pe_cal CN hr (pa_cons (pv 2) pa_nil)) (pe_ix ix_D (pv 0) pe_int (fun _ _ => rfl)) (nomark _)))))), ?_⟩
  rw [encPl_pl] at hv
  have tok := ok.ok _ _ (G.treeOf_mem ht)
  have ce := G.called_eq tok.ft
  have hcn := tok.cn
  refine ⟨_, rfl, _, rfl, _, _, _, .inl hv, rfl, atI_nat (j := 0) rfl, fun w3 hw3 => ?_⟩
  rw [un_str hw3]
  refine ⟨bv, top, ts, p.key, t, rfl, hb, ht, fun tv H1 s1 h1 => ?_⟩
  refine ⟨_, rfl, tv, t, rfl, h1, tok.dep, by omega, by omega, fun H2 s2 => ⟨_, rfl, _, rfl, ?_⟩⟩
  cases hg : G.isGraft t with
  | true =>
    refine iteF' rfl ?_
    have e : decide (G.called t = (false, top)) = false := decide_eq_false (by rw [ce, hg]; intro z; cases (Prod.mk.inj z).1)
    rw [← e]
    exact q _ (s1.trans s2)
  | false =>
    refine iteT' rfl ?_
    refine ⟨_, rfl, tv, t, rfl, h1.up (.of s2), tok.kn, tok.dep, by omega, by omega, fun H3 s3 => ?_⟩
    have hb3 := ((hb.up (.of s1)).up (.of s2)).up (.of s3)
    refine ⟨_, rfl, _, _, _, .inl hb3, rfl, atI_nat (j := 0) rfl, fun w4 hw4 => ?_⟩
    rw [un_str hw4]
    refine ⟨rfl, ?_⟩
    have e : decide (V.str (G.nameOf t) = V.str top) = decide (G.called t = (false, top)) := by
      rw [strD, ce, hg]
      by_cases z : G.nameOf t = top
      · rw [z, decide_eq_true rfl, decide_eq_true rfl]
      · rw [decide_eq_false z, decide_eq_false fun y => z (Prod.mk.inj y).2]
    show Q (.bl (decide (V.str (G.nameOf t) = V.str top))) H3
    rw [e]
    exact q _ ((s1.trans s2).trans s3)

/-! ### size_of -/
def spSize (n : Nat) : Sp := fun vs H Q _ => ∃ (v : V) (ts : Trees) (p : Plan), vs = [v] ∧ Rp H (encPl p) v ∧ G.TreesOk ts ∧ G.PlanOk ts n p ∧ ∀ H', Same H H' → Q (.int (G.size p : Nat)) H'
abbrev nSize : List Str := ["plan", "place", "one"]
theorem scSize : FnScope nSize ["plan"] (defScope sSize) := ⟨rfl, rfl, rfl, by decide +kernel, rfl, by decide +kernel, by decide +kernel⟩
theorem sum_natZ : ∀ l : List Nat, (natZ l).sum = ((l.sum : Nat) : Int)
  | [] => rfl
  | k :: l => by
    show (((k : Nat) : Int) :: natZ l).sum = _
    rw [List.sum_cons, List.sum_cons, sum_natZ l]; omega
theorem ok_size_step {n : Nat} (F : Fun K "size_of" "size_of" sSize f fd) (CS : Cal P w K mg base "size_of" (n + 1) ["plan"] (spSize n)) (B : Blt mg) : FnOk P w K mg base CX0 (n + 1 + 1) f fd ["plan"] (spSize (n + 1)) := by
  refine F.ok scSize (fun vs H Q E h => ?_) (fun cdv A outer s H vs Q E hr h => ?_)
  · obtain ⟨v, ts, p, rfl, _⟩ := h
    rfl
  obtain ⟨v, ts, p, rfl, hv, ok, hp, q⟩ := h
  have nd := scSize.nd
  refine ⟨_, pss_one (ps_ret (pe_op op_add pe_int (pe_callB (cr_sum rfl) rfl B.sum (by decide +kernel) (pa_cons (pe_lc (own := [("place", 1), ("one", 2)]) (g := gTup K 2 (gCons (gName 1) (gCons (gName 2) gNil))) (tt := tYes) rfl nd (pi_tup (pe_ix ix_D (pv 0) pe_int (fun _ _ => rfl)))
      (blkOk_by (own := [("place", 1), ("one", 2)]) (N := nSize) (sc := defScope sSize) (by decide +kernel)) (fun _ _ _ _ _ => pg_tup rfl (pgs_cons (pg_name (i := 1) nd rfl (Or.inl rfl)) (pgs_cons (pg_name (i := 2) nd rfl (Or.inl rfl)) pgs_nil))) (fun _ _ _ _ _ => pts_nil)
      (fun _ _ _ _ _ => pe_cal CS hr (pa_cons (pv 2) pa_nil))) pa_nil)))), ?_⟩
  have hpl := hp.puts ok
  cases hp with
  | @mk _ key puts t h1 h2 h3 h4 h5 =>
  rw [encPl_eq] at hv
  refine ⟨_, rfl, _, _, _, .inl hv, rfl, atI_nat (j := 1) rfl, fun w5 hw5 => ?_⟩
  obtain ⟨a, xs, o, rfl, ha, _, hl⟩ := un_ftup hw5
  have hlen : xs.length = puts.length := by rw [hl.len, List.length_map]
  refine ⟨a, rfl, ⟨_, SqT.fz ha⟩, fun D0 hD0 => ?_⟩
  refine lc_tup (K := K) (a := a) (xs := xs) (fun i H' => Same H H' ∧ H' D0 = some (.lst ((natZ ((puts.take i).map fun x => G.size x.2)).map V.int))) ⟨sNew hD0, upd_same⟩ (fun i H' _ ⟨s', _⟩ => SqT.fz (s' _ _ ha)) ?_ ?_
  · rintro i x H4 hx ⟨s4, h4'⟩
    obtain ⟨d, hd, hxd⟩ := hl.get hx
    rw [List.getElem?_map] at hd
    obtain ⟨⟨q1, pl⟩, hk1, rfl⟩ := Option.map_eq_some_iff.mp hd
    have hx4 : Rp H4 (.tup [encP q1, encPl pl]) x := hxd.up (.of s4)
    obtain ⟨p, y1, y2, rfl, hp, hy1, hy2⟩ := un_tup2 hx4
    refine ⟨p, _, rfl, SqT.of hp, rfl, _, _, rfl, _, _, rfl, rfl, ?_⟩
    refine ⟨rfl, ?_⟩
    refine yesT ?_
    refine ⟨_, rfl, y2, ts, pl, rfl, hy2, ok, h5 _ (List.mem_of_getElem? hk1), fun H5 s5 => ?_⟩
    have hil := (List.getElem?_eq_some_iff.mp hk1).1
    have hpl' : puts.length ≤ 29 := hpl
    refine ⟨_, s5 _ _ h4', small (by unfold natZ; simp only [List.length_map, List.length_take]; omega), sUpd (s4.trans s5) hD0, ?_⟩
    rw [upd_same]
    congr 2
    unfold natZ
    rw [List.take_succ, hk1]
    simp
  · rintro H4 ⟨s4, h4'⟩
    rw [hlen, List.take_length] at h4'
    refine ⟨D0, _, rfl, SqL.of h4', ?_⟩
    rw [sum_natZ]
    refine ⟨_, _, rfl, rfl, ?_⟩
    have e : (1 : Int) + (((puts.map fun x => G.size x.2).sum : Nat) : Int) = ((G.size (.mk key puts) : Nat) : Int) := by
      rw [G.size, G.sizeL_sum]; omega
    show Q (.int ((1 : Int) + (((puts.map fun x => G.size x.2).sum : Nat) : Int))) H4
    rw [e]
    exact q _ s4
theorem ok_size (S : Std K mg "size_of" sSize ["plan"] f fd) (B : Blt mg) : ∀ n, Cal P w K mg base "size_of" (n + 1) ["plan"] (spSize n)
  | 0 => S.cal (fn_never fun vs H Q E h => by
      obtain ⟨v, ts, p, _, _, _, hp, _⟩ := h
      cases hp)
  | n + 1 => S.cal (ok_size_step S.fn (ok_size S B n) B)
end
end L2.Gs
set_option Elab.async false
set_option linter.all false
set_option maxRecDepth 100000
set_option maxHeartbeats 4000000
namespace L2.Gs
open PySem PySem.Spec PyProof.Rows
open _root_.G (Tre Plan Trees)

/-! ### the law's state -/
def stK (sc : Addr) (i k : Int) : List (Key × V) := [(.inr "script", .ref sc), (.inr "at", .int i), (.inr "keys", .int k)]
theorem st_script (sc : Addr) (i k : Int) : valV (stK sc i k) (.inr "script") = some (.ref sc) := valV_pos rfl
theorem ne_key {a b : Str} (h : a ≠ b) : ¬ (Sum.inr a : Key) = Sum.inr b := fun e => h (Sum.inr.inj e)
theorem st_at (sc : Addr) (i k : Int) : valV (stK sc i k) (.inr "at") = some (.int i) := by
  unfold stK
  rw [valV_neg (ne_key (by decide +kernel)), valV_pos rfl]
theorem st_keys (sc : Addr) (i k : Int) : valV (stK sc i k) (.inr "keys") = some (.int k) := by
  unfold stK
  rw [valV_neg (ne_key (by decide +kernel)), valV_neg (ne_key (by decide +kernel)), valV_pos rfl]
theorem put_at (sc : Addr) (i k j : Int) : putK (stK sc i k) (.inr "at") (.int j) = stK sc j k := by
  have e : ((stK sc i k).any fun kv => decide (kv.1 = Sum.inr ("at" : Str))) = true := by rw [valV_any, st_at]; rfl
  have h1 : ¬ (Sum.inr ("script" : Str) : Key) = Sum.inr ("at" : Str) := ne_key (by decide +kernel)
  have h2 : ¬ (Sum.inr ("keys" : Str) : Key) = Sum.inr ("at" : Str) := ne_key (by decide +kernel)
  unfold putK
  rw [if_pos e]
  unfold stK
  simp only [List.map_cons, List.map_nil, if_neg h1, if_neg h2, if_true]
theorem put_keys (sc : Addr) (i k j : Int) : putK (stK sc i k) (.inr "keys") (.int j) = stK sc i j := by
  have e : ((stK sc i k).any fun kv => decide (kv.1 = Sum.inr ("keys" : Str))) = true := by rw [valV_any, st_keys]; rfl
  have h1 : ¬ (Sum.inr ("script" : Str) : Key) = Sum.inr ("keys" : Str) := ne_key (by decide +kernel)
  have h2 : ¬ (Sum.inr ("at" : Str) : Key) = Sum.inr ("keys" : Str) := ne_key (by decide +kernel)
  unfold putK
  rw [if_pos e]
  unfold stK
  simp only [List.map_cons, List.map_nil, if_neg h1, if_neg h2, if_true]
/-- the state's dict stands; the script is to be read -/
def StD (sc : Addr) (H : Hp) (st : Addr) : Prop := ∃ i k : Int, H st = some (.dK (stK sc i k)) ∧ 0 ≤ i
def StOk (K : PySem.W.Frag) (sc : Addr) (ns : List Int) (H : Hp) (st : Addr) : Prop := StD sc H st ∧ SqL K H sc (ns.map V.int)
/-- all but the state is as it was -/
def Kp (st : Addr) (H H' : Hp) : Prop := ∀ b o, b ≠ st → H b = some o → H' b = some o
section
variable {K : PySem.W.Frag} {sc st l : Addr} {ns : List Int} {H H' H1 H2 : Hp} {o : HO}
theorem Kp.refl (st : Addr) (H : Hp) : Kp st H H := fun _ _ _ h => h
theorem Kp.trans (a : Kp st H H1) (b : Kp st H1 H2) : Kp st H H2 := fun c o n h => b c o n (a c o n h)
theorem Kp.of (s : Same H H') : Kp st H H' := fun b o _ h => s b o h
theorem StD.noT (h : StD sc H st) : NoT H st := by
  obtain ⟨i, k, h, _⟩ := h
  exact .dK h
theorem StD.ex (h : StD sc H st) : ∃ o, H st = some o := by
  obtain ⟨i, k, h, _⟩ := h
  exact ⟨_, h⟩
theorem StD.same (h : StD sc H st) (s : Same H H') : StD sc H' st := by
  obtain ⟨i, k, h, hi⟩ := h
  exact ⟨i, k, s _ _ h, hi⟩
theorem StD.ne (h : StD sc H st) (n : H l = none) : l ≠ st := fun e => by
  obtain ⟨o, q⟩ := h.ex
  rw [e, q] at n; cases n
theorem StD.upd (h : StD sc H st) (n : l ≠ st) : StD sc (upd H l o) st := by
  obtain ⟨i, k, h, hi⟩ := h
  exact ⟨i, k, by rw [upd_ne (Ne.symm n)]; exact h, hi⟩
theorem Kp.tm (k : Kp st H H') (s : StD sc H st) : TM H H' :=
  ⟨fun b xs h => k b _ (fun e => s.noT.1 xs (by rw [← e]; exact h)) h, fun b o xs h => k b _ (fun e => s.noT.2 o xs (by rw [← e]; exact h)) h⟩
/-- what is new behind was new ahead -/
theorem Kp.free (k : Kp st H H') (s : StD sc H' st) (n : H' l = none) : H l = none := by
  cases q : H l with
  | none => rfl
  | some o => rw [k l o (s.ne n) q] at n; cases n
theorem StOk.re (h : StOk K sc ns H st) (k : Kp st H H') (s : StD sc H' st) : StOk K sc ns H' st := by
  obtain ⟨⟨i, j, hd, _⟩, hs⟩ := h
  refine ⟨s, ?_⟩
  rcases hs with (hs | ⟨o, hs⟩) | hs
  · exact .inl (.inl (k _ _ (fun e => by rw [e, hd] at hs; cases hs) hs))
  · exact .inl (.inr ⟨o, k _ _ (fun e => by rw [e, hd] at hs; cases hs) hs⟩)
  · exact .inr hs
/-- a fresh object beside -/
theorem kUpd (s : Kp st H H1) (n : H l = none) : Kp st H (upd H1 l o) := fun b u ne e => by rw [upd_ne (ne_of_none e n)]; exact s b u ne e
/-- the state itself -/
theorem kSt (s : Kp st H H1) : Kp st H (upd H1 st o) := fun b u ne e => by rw [upd_ne ne]; exact s b u ne e
end

section
variable {P : Program} {w : World} {K : PySem.W.Frag} {mg : Str → Option Value} {base : Heap} {f : Addr} {fd : FuncData}
/-! ### _law_cell -/
def spCell : Sp := fun vs H Q _ => ∃ (st sc : Addr) (ns : List Int), vs = [.ref st] ∧ StOk K sc ns H st ∧ ∀ c H', Kp st H H' → StD sc H' st → Q (.int c) H'
theorem scCell : FnScope ["state"] ["state"] (defScope sCell) := ⟨rfl, rfl, rfl, by decide +kernel, rfl, by decide +kernel, by decide +kernel⟩
theorem ok_cell (F : Fun K "_law_cell" "_law_cell" sCell f fd) (B : Blt mg) : FnOk P w K mg base CX0 1 f fd ["state"] (spCell (K := K)) := by
  refine F.ok scCell (fun vs H Q E h => ?_) (fun cdv A outer s H vs Q E hr h => ?_)
  · obtain ⟨st, sc, ns, rfl, _⟩ := h
    rfl
  obtain ⟨st, sc, ns, rfl, hok, q⟩ := h
  have hu := hu_of hr
  refine ⟨_, pss_cons (ps_dput hu (pv 0) pe_str (pe_op op_add (pe_dget hu (pv 0) pe_str (fun _ _ => rfl)) pe_int) rfl)
    (pss_cons (ps_if (pt_cmpR op_gt (pe_dget hu (pv 0) pe_str (fun _ _ => rfl)) (pe_callB call_len_seq rfl B.len PySem.boot_len (pa_cons (pe_dget hu (pv 0) pe_str (fun _ _ => rfl)) pa_nil)) (nomark _)) (pss_one (ps_ret pe_int)) pss_nil)
    (pss_one (ps_ret (pe_ix ix_list (pe_dget hu (pv 0) pe_str (fun _ _ => rfl)) (pe_op op_sub (pe_dget hu (pv 0) pe_str (fun _ _ => rfl)) pe_int) (fun _ _ => rfl))))), ?_⟩
  obtain ⟨⟨i, k, hd, hi⟩, hs⟩ := id hok
  refine ⟨_, rfl, st, .int i, rfl, by rw [← st_at sc i k]; exact DGet.k (k := Sum.inr "at") hd, _, _, rfl, rfl, ?_⟩
  refine ⟨_, rfl, st, _, rfl, DPut.k (k := Sum.inr "at") hd (by show 3 < sizeLine; decide), ?_⟩
  rw [put_at]
  have k1 : Kp st H (upd H st (.dK (stK sc (i + 1) k))) := kSt (Kp.refl _ _)
  have hd1 : upd H st (.dK (stK sc (i + 1) k)) st = some (.dK (stK sc (i + 1) k)) := upd_same
  have s1 : StD sc (upd H st (.dK (stK sc (i + 1) k))) st := ⟨i + 1, k, hd1, by omega⟩
  have hs1 := (hok.re k1 s1).2
  generalize upd H st (.dK (stK sc (i + 1) k)) = H1 at k1 hd1 s1 hs1
  have d1 : DGet H1 st (.str "at") (some (.int (i + 1))) := by rw [← st_at sc (i + 1) k]; exact DGet.k (k := Sum.inr "at") hd1
  have d2 : DGet H1 st (.str "script") (some (.ref sc)) := by rw [← st_script sc (i + 1) k]; exact DGet.k (k := Sum.inr "script") hd1
  refine ⟨_, rfl, st, _, rfl, d1, _, rfl, st, _, rfl, d2, sc, _, rfl, .inl hs1, _, _, rfl, rfl, _, rfl, ?_⟩
  refine ite2 (fun c => ?_) (fun c => ?_)
  · exact q _ _ k1 s1
  · have c' := of_decide_eq_false (Bool.eq_false_iff.mpr c)
    rw [List.length_map] at c'
    have hlt : i.toNat < ns.length := by omega
    refine ⟨_, rfl, st, _, rfl, d2, _, rfl, st, _, rfl, d1, _, _, rfl, rfl, sc, _, _, .int ns[i.toNat], rfl, rfl, hs1, ?_, q _ _ k1 s1⟩
    exact at_of (j := i.toNat) (by omega) (by rw [List.getElem?_map, List.getElem?_eq_getElem hlt]; rfl)
end
end L2.Gs
set_option Elab.async false
set_option linter.all false
set_option maxRecDepth 100000
set_option maxHeartbeats 4000000
namespace L2.Gs
open PySem PySem.Spec PyProof.Rows
open _root_.G (Tre Plan Trees)
theorem at_ofG {α : Type} {xs : List α} {z : Int} {j : Nat} {v : α} (e : z = (j : Int)) (h : xs[j]? = some v) : L2.atI xs z = some v := by rw [e]; exact atI_nat h
theorem atI_in {α : Type} {ds : List α} {i : Int} (h0 : 0 ≤ i) (h1 : i < (ds.length : Int)) : ∃ d, L2.atI ds i = some d ∧ d ∈ ds := by
  have hl : i.toNat < ds.length := by omega
  exact ⟨ds[i.toNat], at_ofG (j := i.toNat) (by omega) (List.getElem?_eq_getElem hl), List.getElem_mem hl⟩
/-- one of a written list's items -/
theorem pickD {H : Hp} {l : Addr} {ds : List D} {i : Int} {Q : VK} (h : Ls H l ds) (h0 : 0 ≤ i) (h1 : i < (ds.length : Int)) (q : ∀ d ∈ ds, ∀ v, Rp H d v → Q v H) : rIxLD (.ref l) (.int i) H Q := by
  obtain ⟨d, a, b⟩ := atI_in h0 h1
  exact ⟨l, ds, i, d, rfl, h, rfl, a, q d b⟩
theorem pick3 {H : Hp} {l : Addr} {a b c : Str} {i : Int} {Q : VK} (h : Ls H l [.str a, .str b, .str c]) (h0 : 0 ≤ i) (h1 : i < 3) (q : ∀ n, n = a ∨ n = b ∨ n = c → Q (.str n) H) : rIxLD (.ref l) (.int i) H Q := by
  refine pickD h h0 h1 fun d hd v hv => ?_
  rcases List.mem_cons.mp hd with rfl | hd
  · rw [un_str hv]; exact q _ (.inl rfl)
  rcases List.mem_cons.mp hd with rfl | hd
  · rw [un_str hv]; exact q _ (.inr (.inl rfl))
  rcases List.mem_cons.mp hd with rfl | hd
  · rw [un_str hv]; exact q _ (.inr (.inr rfl))
  · cases hd
theorem pick2 {H : Hp} {l : Addr} {a b : Str} {i : Int} {Q : VK} (h : Ls H l [.str a, .str b]) (h0 : 0 ≤ i) (h1 : i < 2) (q : ∀ n, n = a ∨ n = b → Q (.str n) H) : rIxLD (.ref l) (.int i) H Q := by
  refine pickD h h0 h1 fun d hd v hv => ?_
  rcases List.mem_cons.mp hd with rfl | hd
  · rw [un_str hv]; exact q _ (.inl rfl)
  rcases List.mem_cons.mp hd with rfl | hd
  · rw [un_str hv]; exact q _ (.inr rfl)
  · cases hd
theorem rl_strs {H : Hp} : ∀ {ks : List Str}, RpL H (ks.map D.str) (ks.map V.str)
  | [] => rl_nil
  | k :: ks => rl_cons rp_str rl_strs
section
variable {P : Program} {w : World} {K : PySem.W.Frag} {mg : Str → Option Value} {base : Heap} {f : Addr} {fd : FuncData}
/-! ### _law_kid -/
def spKid (K : PySem.W.Frag) (n : Nat) : Sp := fun vs H Q _ => ∃ (st sc : Addr) (ns : List Int) (l : Nat), vs = [.ref st, .int (l : Nat)] ∧ StOk K sc ns H st ∧ l < n ∧ n ≤ 10 ∧ ∀ r H' t, Kp st H H' → StD sc H' st → Rp H' (encT t) r → G.KidOk l t → Q r H'
theorem scKid : FnScope ["state", "left", "cell", "sign", "name", "takes", "kids", "k"] ["state", "left"] (defScope sKid) := ⟨rfl, rfl, rfl, by decide +kernel, rfl, by decide +kernel, by decide +kernel⟩
theorem want_takes (n m : Str) (ks : List Tre) (b : Bool) : G.want (.knot n (some (m, b)) ks) = some (true, m, b) := rfl
theorem ok_kid_step {n : Nat} (F : Fun K "_law_kid" "_law_kid" sKid f fd) (CC : Cal P w K mg base "_law_cell" 1 ["state"] (spCell (K := K))) (CI : Cal P w K mg base "_law_kid" (n + 1) ["state", "left"] (spKid K n)) (B : Blt mg) :
    FnOk P w K mg base CX0 (n + 1 + 1) f fd ["state", "left"] (spKid K (n + 1)) := by
  refine F.ok scKid (fun vs H Q E h => ?_) (fun cdv A outer s H vs Q E hr h => ?_)
  · obtain ⟨st, sc, ns, l, rfl, _⟩ := h
    rfl
  obtain ⟨st, sc, ns, l, rfl, hok, hl, hn, q⟩ := h
  have nd := scKid.nd
  have hr1 : Room 1 _ := hr.mono (by omega)
  refine ⟨_, pss_cons (ps_set (i := 2) nd rfl (Or.inl rfl) (pe_cal CC hr1 (pa_cons (pv 0) pa_nil)))
    (pss_cons (ps_set (i := 3) nd rfl (Or.inl rfl) (pe_tupD (pa_cons pe_str (pa_cons (pe_ix ix_LD (pe_lstD (pa_cons pe_str (pa_cons pe_str (pa_cons pe_str pa_nil)))) (pe_op op_mod (pe_op op_fdiv (pv 2) pe_int) pe_int) (fun _ _ => rfl)) pa_nil))))
    (pss_cons (ps_set (i := 4) nd rfl (Or.inl rfl) (pe_ix ix_LD (pe_lstD (pa_cons pe_str (pa_cons pe_str (pa_cons pe_str pa_nil)))) (pe_op op_mod (pe_op op_fdiv (pv 2) pe_int) pe_int) (fun _ _ => rfl)))
    (pss_cons (ps_if (PW.pt (pw_or (pt_cmpR op_eq (pv 1) pe_int (nomark _)) (pw_or1 (pt_cmpR op_lt (pe_op op_mod (pv 2) pe_int) pe_int (nomark _)))))
      (pss_one (ps_ret (pe_ix ix_LD (pe_lstD (pa_cons (pv 3) (pa_cons (pv 3) (pa_cons (pe_tupD (pa_cons pe_str pa_nil)) (pa_cons (pe_tupD (pa_cons pe_str (pa_cons (pv 4) pa_nil))) pa_nil))))) (pe_op op_mod (pe_op op_fdiv (pv 2) pe_int) pe_int) (fun _ _ => rfl)))) pss_nil)
    (pss_cons (ps_set (i := 5) nd rfl (Or.inl rfl) (pe_ix ix_LD (pe_lstD (pa_cons pe_non (pa_cons (pe_tupD (pa_cons (pv 4) (pa_cons pe_bl pa_nil))) (pa_cons (pe_tupD (pa_cons pe_str (pa_cons pe_bl pa_nil))) (pa_cons (pe_tupD (pa_cons (pv 4) (pa_cons pe_bl pa_nil))) pa_nil))))) (pe_op op_mod (pe_op op_fdiv (pv 2) pe_int) pe_int) (fun _ _ => rfl)))
    (pss_cons (ps_set (i := 6) nd rfl (Or.inl rfl) (pe_lst pa_nil))
    (pss_cons (ps_for PassesOwn.never rfl (pi_range1 rfl B.range (pa_cons (pe_op op_add pe_int (pe_op op_mod (pe_op op_fdiv (pv 2) pe_int) pe_int)) pa_nil)) (pg_name (i := 7) nd rfl (Or.inl rfl))
      (pss_one (ps_expr (pe_bm PySem.F.plainAttrs_list PySem.F.slot_list_append PySem.F.type_list_append mt_append (pv 6) (pa_cons (pe_cal CI hr (pa_cons (pv 0) (pa_cons (pe_op op_sub (pv 1) pe_int) pa_nil))) pa_nil)))))
    (pss_one (ps_ret (pe_tupD (pa_cons pe_str (pa_cons (pe_ix ix_LD (pe_lstD (pa_cons pe_str (pa_cons pe_str (pa_cons pe_str pa_nil)))) (pe_op op_mod (pe_op op_fdiv (pv 2) pe_int) pe_int) (fun _ _ => rfl)) (pa_cons (pv 5) (pa_cons (pe_callTy call_tupD rfl B.tup (by decide +kernel) (pa_cons (pv 6) pa_nil)) pa_nil))))))))))))), ?_⟩
  have hs0 := hok.1
  -- cell
  refine ⟨_, rfl, st, sc, ns, rfl, hok, fun c H1 k1 s1 => ?_⟩
  -- sign
  refine ⟨_, rl_cons rp_str (rl_cons rp_str (rl_one rp_str)), by simp, fun l2 H2 e2 n2 hl2 => ?_⟩
  refine ⟨_, rfl, _, _, rfl, rfl, ⟨by decide, by decide⟩, _, _, rfl, rfl, (by show (0 : Int) < 3; decide), ?_⟩
  refine pick3 hl2 (Int.emod_nonneg _ (by decide)) (Int.emod_lt_of_pos _ (by decide)) fun sg _ => ?_
  refine ⟨_, rl_cons rp_str (rl_one rp_str), by simp, fun sv H3 e3 hsv => ?_⟩
  have hsg : Rp H3 (encT (.sign sg)) sv := by rw [encT]; exact hsv
  have k3 : Kp st H H3 := k1.trans (Kp.of (e2.trans e3))
  have s3 := (s1.same e2).same e3
  -- name
  refine ⟨_, rl_cons rp_str (rl_cons rp_str (rl_one rp_str)), by simp, fun l4 H4 e4 n4 hl4 => ?_⟩
  refine ⟨_, rfl, _, _, rfl, rfl, ⟨by decide, by decide⟩, _, _, rfl, rfl, (by show (0 : Int) < 3; decide), ?_⟩
  refine pick3 hl4 (Int.emod_nonneg _ (by decide)) (Int.emod_lt_of_pos _ (by decide)) fun nm hnm => ?_
  have hnm' : G.Nm nm := hnm
  have k4 : Kp st H H4 := k3.trans (Kp.of e4)
  have s4 := s3.same e4
  have hsg4 := hsg.up (.of e4)
  -- the leaves
  have leaf : tRet (tOp rIxLD (tLstD (tCons (tVar 3) (tCons (tVar 3) (tCons (tTupD (tCons (tC (.str "void")) tNil)) (tCons (tTupD (tCons (tC (.str "hole")) (tCons (tVar 4) tNil))) tNil))))) (tOp (rI (fun _ j => 0 < j) fun i j => .int (i % j)) (tOp (rI CDiv fun i j => .int (i / j)) (tVar 2) (tC (.int 45))) (tC (.int 4))))
      { nx := fun _ _ => True, rt := Q } [some (.ref st), some (.int (l : Nat)), some (.int c), some sv, some (.str nm), none, none, none] H4 := by
    refine ⟨_, rfl, _, rfl, _, rl_one rp_str, by simp, fun vv H5 e5 hvv => ?_⟩
    refine ⟨_, rfl, _, rl_cons rp_str (rl_one rp_str), by simp, fun hv H6 e6 hhv => ?_⟩
    have hvv6 := hvv.up (.of e6)
    have hsg6 := hsg4.up ((TM.of e5).trans (.of e6))
    refine ⟨[encT (.sign sg), encT (.sign sg), encT .void, encT (.hole nm)], rl_cons hsg6 (rl_cons hsg6 (rl_cons (by rw [encT]; exact hvv6) (rl_one (by rw [encT]; exact hhv)))), by simp, fun l7 H7 e7 n7 hl7 => ?_⟩
    refine ⟨_, rfl, _, _, rfl, rfl, ⟨by decide, by decide⟩, _, _, rfl, rfl, (by show (0 : Int) < 4; decide), ?_⟩
    refine pickD hl7 (Int.emod_nonneg _ (by decide)) (Int.emod_lt_of_pos _ (by decide)) fun d hd v hv => ?_
    have k7 : Kp st H H7 := k4.trans (Kp.of (e5.trans (e6.trans e7)))
    have s7 := s4.same (e5.trans (e6.trans e7))
    rcases List.mem_cons.mp hd with rfl | hd
    · exact q _ _ _ k7 s7 hv (.leaf (fun _ _ _ => by simp) (fun _ => by simp) (fun g n b e => by simp [G.want] at e))
    rcases List.mem_cons.mp hd with rfl | hd
    · exact q _ _ _ k7 s7 hv (.leaf (fun _ _ _ => by simp) (fun _ => by simp) (fun g n b e => by simp [G.want] at e))
    rcases List.mem_cons.mp hd with rfl | hd
    · exact q _ _ _ k7 s7 hv (.leaf (fun _ _ _ => by simp) (fun _ => by simp) (fun g n b e => by simp [G.want] at e))
    rcases List.mem_cons.mp hd with rfl | hd
    · refine q _ _ _ k7 s7 hv (.leaf (fun _ _ _ => by simp) (fun _ => by simp) (fun g n b e => ?_))
      have e' : some (false, nm, true) = some (g, n, b) := e
      cases e'
      exact ⟨.inl hnm', fun _ => hnm'⟩
    · cases hd
  refine ⟨_, rfl, rfl, _, rfl, ?_⟩
  rw [intD]
  refine ite2 (fun c0 => ?_) (fun c0 => ?_)
  · exact iteT' rfl leaf
  refine ⟨_, rfl, _, _, rfl, rfl, (by show (0 : Int) < 5; decide), _, _, rfl, rfl, _, rfl, ?_⟩
  refine ite2 (fun c1 => ?_) (fun c1 => ?_)
  · exact leaf
  clear leaf
  have hl0 : l ≠ 0 := fun e => c0 (decide_eq_true (by omega))
  obtain ⟨l', rfl⟩ : ∃ l', l = l' + 1 := ⟨l - 1, by omega⟩
  -- takes
  refine ⟨_, rfl, _, rl_cons rp_str (rl_one rp_bl), by simp, fun t1 H5 e5 ht1 => ?_⟩
  refine ⟨_, rl_cons rp_str (rl_one rp_bl), by simp, fun t2 H6 e6 ht2 => ?_⟩
  refine ⟨_, rfl, _, rl_cons rp_str (rl_one rp_bl), by simp, fun t3 H7 e7 ht3 => ?_⟩
  refine ⟨[encTk none, encTk (some (nm, false)), encTk (some ("Z", false)), encTk (some (nm, true))], rl_cons rp_non (rl_cons (ht1.up ((TM.of e6).trans (.of e7))) (rl_cons (ht2.up (.of e7)) (rl_one ht3))), by simp, fun l8 H8 e8 n8 hl8 => ?_⟩
  refine ⟨_, rfl, _, _, rfl, rfl, ⟨by decide, by decide⟩, _, _, rfl, rfl, (by show (0 : Int) < 4; decide), ?_⟩
  have pick : ∃ tk d, L2.atI [encTk none, encTk (some (nm, false)), encTk (some ("Z", false)), encTk (some (nm, true))] (c / 45 % 4) = some d ∧ d = encTk tk ∧ ∀ n ks, G.MustNm (.knot n tk ks) := by
    obtain ⟨d, a, b⟩ := atI_in (ds := [encTk none, encTk (some (nm, false)), encTk (some (("Z" : Str), false)), encTk (some (nm, true))]) (i := c / 45 % 4) (Int.emod_nonneg _ (by decide)) (Int.emod_lt_of_pos _ (by decide))
    rcases List.mem_cons.mp b with rfl | b
    · exact ⟨none, _, a, rfl, fun n ks g m bb e => by simp [G.want] at e⟩
    rcases List.mem_cons.mp b with rfl | b
    · exact ⟨some (nm, false), _, a, rfl, fun n ks g m bb e => by have e' : some (true, nm, false) = some (g, m, bb) := e; cases e'; exact ⟨.inl hnm', fun z => by cases z⟩⟩
    rcases List.mem_cons.mp b with rfl | b
    · exact ⟨some ("Z", false), _, a, rfl, fun n ks g m bb e => by have e' : some (true, ("Z" : Str), false) = some (g, m, bb) := e; cases e'; exact ⟨.inr rfl, fun z => by cases z⟩⟩
    rcases List.mem_cons.mp b with rfl | b
    · exact ⟨some (nm, true), _, a, rfl, fun n ks g m bb e => by have e' : some (true, nm, true) = some (g, m, bb) := e; cases e'; exact ⟨.inl hnm', fun _ => hnm'⟩⟩
    · cases b
  obtain ⟨tk, d, pk1, rfl, hmust⟩ := pick
  refine ⟨l8, _, _, _, rfl, hl8, rfl, pk1, fun tkv htkv => ?_⟩
  have k8 : Kp st H H8 := k4.trans (Kp.of (e5.trans (e6.trans (e7.trans e8))))
  have s8 := s4.same (e5.trans (e6.trans (e7.trans e8)))
  -- kids = []
  refine ⟨(by show 0 ≤ sizeLine; decide), fun kl hkl => ?_⟩
  have hkl0 : H kl = none := k8.free s8 hkl
  have klst : kl ≠ st := s8.ne hkl
  have s9 : StD sc (upd H8 kl (.lst [])) st := s8.upd klst
  have k9 : Kp st H (upd H8 kl (.lst [])) := kUpd k8 hkl0
  have tk9 : Rp (upd H8 kl (.lst [])) (encTk tk) tkv := htkv.up (.upd (.none hkl))
  have l9 : Ls (upd H8 kl (.lst [])) kl [] := ⟨[], upd_same, rl_nil⟩
  generalize upd H8 kl (.lst []) = H9 at s9 k9 tk9 l9
  refine ⟨_, rfl, _, _, rfl, rfl, ⟨by decide, by decide⟩, _, _, rfl, rfl, (by show (0 : Int) < 3; decide), _, _, rfl, rfl, ?_⟩
  have b1 : 0 ≤ c / 180 % 3 := Int.emod_nonneg _ (by decide)
  have b2 : c / 180 % 3 < 3 := Int.emod_lt_of_pos _ (by decide)
  refine ⟨1 + c / 180 % 3, rfl, by omega, by omega, ?_⟩
  refine for_range (lo := 0) (n := (1 + c / 180 % 3).toNat) (fun i σ H' => ∃ o7 ts, σ = [some (.ref st), some (.int ((l' + 1 : Nat) : Nat)), some (.int c), some sv, some (.str nm), some tkv, some (.ref kl), o7] ∧ Kp st H H' ∧ StD sc H' st ∧ TM H9 H' ∧
      Ls H' kl (ts.map encT) ∧ ts.length = i ∧ ∀ t ∈ ts, G.KidOk l' t)
    ⟨none, [], rfl, k9, s9, TM.refl _, l9, rfl, fun t ht => by cases ht⟩ ?_ ?_
  · rintro i σ H10 hi ⟨o7, ts, rfl, k10, s10, tm10, ⟨acc, hacc, hal⟩, hlen, hts⟩
    refine ⟨_, rfl, .inl ⟨rfl, _, SqL.of hacc⟩, ?_⟩
    refine ⟨_, rfl, _, rfl, _, _, rfl, rfl, ?_⟩
    refine ⟨st, sc, ns, l', by show [V.ref st, V.int (((l' + 1 : Nat) : Int) - 1)] = [V.ref st, V.int ((l' : Nat) : Int)]; rw [show (((l' + 1 : Nat) : Int) - 1) = ((l' : Nat) : Int) by omega], hok.re k10 s10, by omega, by omega, fun r H11 t k11 s11 hr11 hkt => ?_⟩
    have hacc11 := k11 _ _ klst hacc
    have tm11 := k11.tm s10
    refine ⟨kl, acc, r, rfl, rfl, hacc11, small (by rw [hal.len, List.length_map]; omega), ?_⟩
    refine ⟨_, ts ++ [t], rfl, kUpd (k10.trans k11) hkl0, s11.upd klst, tm10.trans (tm11.trans (.upd (.lst hacc11))), ?_, by rw [List.length_append, hlen]; rfl, fun t' ht' => ?_⟩
    · rw [List.map_append]
      exact Ls.push hacc11 (hal.up tm11) hr11
    · rcases List.mem_append.mp ht' with ht' | ht'
      · exact hts t' ht'
      · rw [List.mem_singleton.mp ht']; exact hkt
  · rintro σ H10 ⟨o7, ts, rfl, k10, s10, tm10, l10, hlen, hts⟩
    refine ⟨_, rl_cons rp_str (rl_cons rp_str (rl_one rp_str)), by simp, fun l11 H11 e11 n11 hl11 => ?_⟩
    refine ⟨_, rfl, _, _, rfl, rfl, ⟨by decide, by decide⟩, _, _, rfl, rfl, (by show (0 : Int) < 3; decide), ?_⟩
    refine pick3 hl11 (Int.emod_nonneg _ (by decide)) (Int.emod_lt_of_pos _ (by decide)) fun nm2 _ => ?_
    refine ⟨_, rfl, _, rfl, kl, _, rfl, l10.same e11, fun kv H12 e12 hkv => ?_⟩
    refine ⟨[.str "knot", .str nm2, encTk tk, .tup (ts.map encT)], rl_cons rp_str (rl_cons rp_str (rl_cons (tk9.up (tm10.trans ((TM.of e11).trans (.of e12)))) (rl_one hkv))), by simp, fun r H13 e13 hr13 => ?_⟩
    refine q r H13 (.knot nm2 tk ts) (k10.trans (Kp.of (e11.trans (e12.trans e13)))) (s10.same (e11.trans (e12.trans e13))) (by rw [encT, encTs_map]; exact hr13) ?_
    exact .knot (by omega) hts (hmust _ _)
theorem ok_kid (S : Std K mg "_law_kid" sKid ["state", "left"] f fd) (CC : Cal P w K mg base "_law_cell" 1 ["state"] (spCell (K := K))) (B : Blt mg) : ∀ n, Cal P w K mg base "_law_kid" (n + 1) ["state", "left"] (spKid K n)
  | 0 => S.cal (fn_never fun vs H Q E h => by
      obtain ⟨st, sc, ns, l, _, _, hl, _⟩ := h
      omega)
  | n + 1 => S.cal (ok_kid_step S.fn CC (ok_kid S CC B n) B)
end
end L2.Gs
set_option Elab.async false
set_option linter.all false
set_option maxRecDepth 100000
set_option maxHeartbeats 4000000
namespace L2.Gs
open PySem PySem.Spec PyProof.Rows
open _root_.G (Tre Plan Trees)
theorem sIx_pos {n k : Nat} (h : k ≤ n) (d : Nat) : HT.sIx n d (some ((k : Nat) : Int)) = k := by
  rw [HT.sIx_nat]; omega
theorem cutD_take {ds : List D} {i : Int} {k : Nat} (e : i = (k : Int)) (h : k ≤ ds.length) : cutD ds none (some i) = ds.take k := by
  subst e
  unfold cutD
  rw [sIx_pos h, HT.sIx_none, List.drop_zero, Nat.sub_zero]
theorem cutD_drop {ds : List D} {i : Int} {k : Nat} (e : i = (k : Int)) (h : k ≤ ds.length) : cutD ds (some i) none = ds.drop k := by
  subst e
  unfold cutD
  rw [sIx_pos h, HT.sIx_none]
  exact List.take_of_length_le (by rw [List.length_drop]; omega)
theorem un_ints {H : Hp} : ∀ {ks : List Nat} {vs : List V}, RpL H (ks.map fun k => D.int (k : Nat)) vs → vs = (natZ ks).map V.int := rpl_natZ
section
variable {P : Program} {w : World} {K : PySem.W.Frag} {mg : Str → Option Value} {base : Heap} {f : Addr} {fd : FuncData}
/-! ### _law_footed -/
def spFooted (n : Nat) : Sp := fun vs H Q _ => ∃ (tv fv : V) (t : Tre) (ff : Str) (c : Int), vs = [tv, fv, .int c] ∧ Rp H (encT t) tv ∧ Rp H (encT (.foot ff)) fv ∧ (∃ m tk ks, t = .knot m tk ks) ∧ G.depth t < n ∧ n ≤ 10 ∧ G.cnt t ≤ 500 ∧
  ∀ r H' t', Same H H' → Rp H' (encT t') r → G.Foot ff t t' → Q r H'
abbrev nFooted : List Str := ["tree", "foot", "cell", "knots", "at", "inner", "k"]
theorem scFooted : FnScope nFooted ["tree", "foot", "cell"] (defScope sFooted) := ⟨rfl, rfl, rfl, by decide +kernel, rfl, by decide +kernel, by decide +kernel⟩
theorem kids_len (t : Tre) : (G.kids t).length ≤ G.cnt t := by
  have h := cnt_kids t
  have : ∀ l : List Tre, l.length ≤ (l.map G.cnt).sum := by
    intro l
    induction l with
    | nil => simp
    | cons x r ih =>
      rw [List.length_cons, List.map_cons, List.sum_cons]
      have : 1 ≤ G.cnt x := by cases x <;> simp [G.cnt, G.places]
      omega
  have := this (G.kids t)
  omega
theorem ok_footed_step {n : Nat} (F : Fun K "_law_footed" "_law_footed" sFooted f fd) (CI : Cal P w K mg base "_law_footed" (n + 1) ["tree", "foot", "cell"] (spFooted n)) (B : Blt mg) :
    FnOk P w K mg base CX0 (n + 1 + 1) f fd ["tree", "foot", "cell"] (spFooted (n + 1)) := by
  refine F.ok scFooted (fun vs H Q E h => ?_) (fun cdv A outer s H vs Q E hr h => ?_)
  · obtain ⟨tv, fv, t, ff, c, rfl, _⟩ := h
    rfl
  obtain ⟨tv, fv, t, ff, c, rfl, ht, hf, ⟨m, tk, ks, rfl⟩, hd, hn, hc, q⟩ := h
  have nd := scFooted.nd
  refine ⟨_, pss_cons (ps_setLc (i := 3) (own := [("k", 6)]) (g := gName 6) rfl nd rfl rfl (sw_true rfl rfl rfl (by decide +kernel)) (pi_range1 rfl B.range (pa_cons (pe_callB call_lenTD rfl B.len PySem.boot_len (pa_cons (pe_ix ix_D (pv 0) pe_int (fun _ _ => rfl)) pa_nil)) pa_nil))
      (blkOk_by (own := [("k", 6)]) (N := nFooted) (sc := defScope sFooted) (by decide +kernel)) (fun _ _ _ _ _ => pg_name (i := 6) nd rfl (Or.inl rfl))
      (fun _ _ _ _ _ => pts_one (pt_cmpR op_eq (pe_ix ix_D (pe_ix ix_D (pe_ix ix_D (pv 0) pe_int (fun _ _ => rfl)) (pv 6) (fun _ _ => rfl)) pe_int (fun _ _ => rfl)) pe_str (nomark _))) (fun _ _ _ _ _ => pv 6))
    (pss_cons (ps_if (PW.pt (pw_and (pt_cmpR op_gt (pe_callB call_lenLD rfl B.len PySem.boot_len (pa_cons (pv 3) pa_nil)) pe_int (nomark _)) (pw_and1 (pt_cmpR op_eq (pe_op op_mod (pv 2) pe_int) pe_int (nomark _)))))
      (pss_cons (ps_set (i := 4) nd rfl (Or.inl rfl) (pe_ix ix_LD (pv 3) (pe_op op_mod (pe_op op_fdiv (pv 2) pe_int) (pe_callB call_lenLD rfl B.len PySem.boot_len (pa_cons (pv 3) pa_nil))) (fun _ _ => rfl)))
      (pss_cons (ps_set (i := 5) nd rfl (Or.inl rfl) (pe_cal CI hr (pa_cons (pe_ix ix_D (pe_ix ix_D (pv 0) pe_int (fun _ _ => rfl)) (pv 4) (fun _ _ => rfl)) (pa_cons (pv 1) (pa_cons (pe_op op_fdiv (pv 2) pe_int) pa_nil)))))
      (pss_one (ps_ret (pe_op op_catD (pe_slice sl_D (pv 0) po_none (po_some pe_int)) (pe_tupD (pa_cons (pe_op op_catD (pe_op op_catD (pe_slice sl_D (pe_ix ix_D (pv 0) pe_int (fun _ _ => rfl)) po_none (po_some (pv 4))) (pe_tupD (pa_cons (pv 5) pa_nil))) (pe_slice sl_D (pe_ix ix_D (pv 0) pe_int (fun _ _ => rfl)) (po_some (pe_op op_add (pv 4) pe_int)) po_none)) pa_nil))))))) pss_nil)
    (pss_cons (ps_set (i := 4) nd rfl (Or.inl rfl) (pe_op op_mod (pe_op op_fdiv (pv 2) pe_int) (pe_op op_add (pe_callB call_lenTD rfl B.len PySem.boot_len (pa_cons (pe_ix ix_D (pv 0) pe_int (fun _ _ => rfl)) pa_nil)) pe_int)))
    (pss_one (ps_ret (pe_op op_catD (pe_slice sl_D (pv 0) po_none (po_some pe_int)) (pe_tupD (pa_cons (pe_op op_catD (pe_op op_catD (pe_slice sl_D (pe_ix ix_D (pv 0) pe_int (fun _ _ => rfl)) po_none (po_some (pv 4))) (pe_tupD (pa_cons (pv 1) pa_nil))) (pe_slice sl_D (pe_ix ix_D (pv 0) pe_int (fun _ _ => rfl)) (po_some (pv 4)) po_none)) pa_nil))))))), ?_⟩
  have hkl : ks.length ≤ 500 := by have := kids_len (.knot m tk ks); have e : (G.kids (.knot m tk ks)) = ks := rfl; rw [e] at this; omega
  have henc : encT (.knot m tk ks) = .tup [.str "knot", .str m, encTk tk, .tup (ks.map encT)] := by rw [encT, encTs_map]
  rw [henc] at ht
  have lenE : (ks.map encT).length = ks.length := List.length_map _
  -- tree[3]
  have t3 : ∀ {H' : Hp} {σ : St} {R : VK}, Same H H' → σ[0]? = some (some tv) → (∀ v, Rp H' (.tup (ks.map encT)) v → R v H') → tOp rIxD (tVar 0) (tC (.int 3)) σ H' R := by
    intro H' σ R s h0 hR
    exact ⟨tv, h0, _, _, _, .inl (ht.up (.of s)), rfl, atI_nat (j := 3) rfl, hR⟩
  -- the last part, by the place and what is put there
  refine t3 (Same.refl _) rfl fun w1 hw1 => ?_
  refine ⟨w1, _, rfl, .inl hw1, _, rfl, by omega, by rw [lenE]; omega, fun D0 hD0 => ?_⟩
  rw [lenE, Int.toNat_natCast]
  refine lc_range (lo := 0) (n := ks.length) (fun i H' => Same H H' ∧ ∃ js : List Nat, Ls H' D0 (js.map fun j => D.int (j : Nat)) ∧ js.length ≤ i ∧ ∀ j ∈ js, ∃ m' tk' ks', ks[j]? = some (.knot m' tk' ks'))
    ⟨sNew hD0, [], ⟨[], upd_same, rl_nil⟩, Nat.le_refl _, fun j hj => by cases hj⟩ ?_ ?_
  · rintro i H1 hi ⟨s1, js, hjs, hjl, hjk⟩
    refine ⟨rfl, ?_⟩
    have hki : ks[i]? = some ks[i] := List.getElem?_eq_getElem hi
    refine t3 s1 rfl fun w2 hw2 => ?_
    refine ⟨_, rfl, _, _, _, .inl hw2, rfl, at_ofG (j := i) (by omega) (by rw [List.getElem?_map, hki]; rfl), fun w3 hw3 => ?_⟩
    obtain ⟨r, hr0⟩ := rp_tag hw3
    refine ⟨_, _, _, .inl hr0, rfl, at0, fun w4 hw4 => ?_⟩
    rw [un_str hw4]
    refine ⟨rfl, _, rfl, ?_⟩
    rw [strD]
    refine ite2 (fun cc => ?_) (fun cc => ?_)
    · obtain ⟨m', tk', ks', e⟩ := tag_knot cc
      obtain ⟨acc, hacc, hal⟩ := hjs
      refine ⟨_, rfl, acc, hacc, small (by rw [hal.len, List.length_map]; omega), sUpd s1 hD0, js ++ [i], ?_, by rw [List.length_append]; simpa using hjl, fun j hj => ?_⟩
      · rw [List.map_append]
        refine Ls.push hacc hal ?_
        rw [Int.zero_add]
        exact rp_int
      · rcases List.mem_append.mp hj with hj | hj
        · exact hjk j hj
        · rw [List.mem_singleton.mp hj, hki, e]
          exact ⟨_, _, _, rfl⟩
    · exact ⟨s1, js, hjs, by omega, hjk⟩
  · rintro H1 ⟨s1, js, hjs, hjl, hjk⟩
    refine ⟨_, rfl, D0, _, rfl, hjs, _, _, rfl, rfl, _, rfl, ?_⟩
    have behind : ∀ {i3 i4 i5 i6 : Option V}, tSeq (tAsg (tOp (rI (fun _ j => 0 < j) fun i j => .int (i % j)) (tOp (rI CDiv fun i j => .int (i / j)) (tVar 2) (tC (.int 2))) (tOp (rI0 fun i j => .int (i + j)) (tCB (fun xs H Q => ∃ x ds, xs = [x] ∧ TupOf H ds x ∧ Q (.int (ds.length : Nat)) H) (tCons (tOp rIxD (tVar 0) (tC (.int 3))) tNil)) (tC (.int 1)))) (gName 4))
        (tRet (tOp rCatD (tSl rSlD (tVar 0) tNoPart (tPart (tC (.int 3)))) (tTupD (tCons (tOp rCatD (tOp rCatD (tSl rSlD (tOp rIxD (tVar 0) (tC (.int 3))) tNoPart (tPart (tVar 4))) (tTupD (tCons (tVar 1) tNil))) (tSl rSlD (tOp rIxD (tVar 0) (tC (.int 3))) (tPart (tVar 4)) tNoPart)) tNil))))
        { nx := fun _ _ => True, rt := Q } [some tv, some fv, some (.int c), i3, i4, i5, i6] H1 := by
      intro i3 i4 i5 i6
      refine ⟨_, rfl, _, _, rfl, rfl, ⟨by decide, by decide⟩, ?_⟩
      refine t3 s1 rfl fun w2 hw2 => ?_
      refine ⟨w2, _, rfl, .inl hw2, _, _, rfl, rfl, ?_⟩
      rw [lenE]
      refine ⟨_, _, rfl, rfl, (by show (0 : Int) < ((ks.length : Nat) : Int) + 1; omega), ?_⟩
      have a0 : 0 ≤ c / 2 % (((ks.length : Nat) : Int) + 1) := Int.emod_nonneg _ (by omega)
      have a1 : c / 2 % (((ks.length : Nat) : Int) + 1) < ((ks.length : Nat) : Int) + 1 := Int.emod_lt_of_pos _ (by omega)
      obtain ⟨k, hk⟩ : ∃ k : Nat, c / 2 % (((ks.length : Nat) : Int) + 1) = (k : Int) := ⟨(c / 2 % (((ks.length : Nat) : Int) + 1)).toNat, by omega⟩
      rw [hk] at a0 a1
      have hk' : k ≤ ks.length := by omega
      rw [show ((fun (i j : Int) => V.int (i % j)) (c / 2) (((ks.length : Nat) : Int) + 1)) = V.int ((k : Nat) : Int) from congrArg V.int hk]
      refine ⟨tv, rfl, _, rfl, _, ht.up (.of s1), fun h3 H2 e2 hh3 => ?_⟩
      rw [cutD_take (i := 3) (k := 3) rfl (by simp)] at hh3
      refine t3 (s1.trans e2) rfl fun w3 hw3 => ?_
      refine ⟨_, rfl, _, rfl, _, hw3, fun h4 H3 e3 hh4 => ?_⟩
      rw [cutD_take (k := k) rfl (by rw [lenE]; exact hk')] at hh4
      refine ⟨_, rfl, _, rl_one (hf.up (.of (s1.trans (e2.trans e3)))), by simp, fun h5 H4 e4 hh5 => ?_⟩
      refine ⟨_, _, hh4.up (.of e4), hh5, Nat.le_of_lt (small (by simp only [List.length_take, List.length_map, List.length_singleton]; omega)), fun h6 H5 e5 hh6 => ?_⟩
      refine t3 (s1.trans (e2.trans (e3.trans (e4.trans e5)))) rfl fun w7 hw7 => ?_
      refine ⟨_, rfl, _, rfl, _, hw7, fun h7 H6 e6 hh7 => ?_⟩
      rw [cutD_drop (k := k) rfl (by rw [lenE]; exact hk')] at hh7
      refine ⟨_, _, hh6.up (.of e6), hh7, Nat.le_of_lt (small (by simp only [List.length_append, List.length_take, List.length_drop, List.length_map, List.length_singleton]; omega)), fun h8 H7 e7 hh8 => ?_⟩
      refine ⟨_, rl_one hh8, by simp, fun h9 H8 e8 hh9 => ?_⟩
      refine ⟨_, _, hh3.up (.of (e3.trans (e4.trans (e5.trans (e6.trans (e7.trans e8)))))), hh9, Nat.le_of_lt (small (by simp)), fun r H9 e9 hr9 => ?_⟩
      refine q r H9 (.knot m tk (ks.take k ++ .foot ff :: ks.drop k)) (s1.trans (e2.trans (e3.trans (e4.trans (e5.trans (e6.trans (e7.trans (e8.trans e9)))))))) ?_ ?_
      · rw [encT, encTs_map]
        simp only [List.map_append, List.map_cons, List.map_take, List.map_drop]
        simpa using hr9
      · have h := G.Foot.here (f := ff) (n := m) (tk := tk) (a := ks.take k) (b := ks.drop k)
        rw [List.take_append_drop] at h
        exact h
    refine ite2 (fun c1 => ?_) (fun c1 => ?_)
    · refine ⟨_, rfl, _, _, rfl, rfl, (by show (0 : Int) < 2; decide), rfl, _, rfl, ?_⟩
      refine ite2 (fun c2 => ?_) (fun c2 => ?_)
      · have hjs0 : 0 < js.length := by have := of_decide_eq_true c1; rw [List.length_map] at this; omega
        refine ⟨_, rfl, _, rfl, _, _, rfl, rfl, ⟨by decide, by decide⟩, _, rfl, D0, _, rfl, hjs, ?_⟩
        rw [List.length_map]
        refine ⟨_, _, rfl, rfl, (by show (0 : Int) < ((js.length : Nat) : Int); omega), ?_⟩
        refine pickD hjs (Int.emod_nonneg _ (by omega)) (by rw [List.length_map]; exact Int.emod_lt_of_pos _ (by omega)) fun d hd' v hv => ?_
        obtain ⟨k, hkj, rfl⟩ := List.mem_map.mp hd'
        rw [un_int hv]
        obtain ⟨m', tk', ks', hk⟩ := hjk k hkj
        have hkl' : k < ks.length := (List.getElem?_eq_some_iff.mp hk).1
        have hmem : (Tre.knot m' tk' ks') ∈ G.kids (.knot m tk ks) := List.mem_of_getElem? hk
        refine t3 s1 rfl fun w2 hw2 => ?_
        refine ⟨_, rfl, _, _, _, .inl hw2, rfl, atI_nat (j := k) (by rw [List.getElem?_map, hk]; rfl), fun w3 hw3 => ?_⟩
        refine ⟨_, rfl, _, rfl, _, _, rfl, rfl, ⟨by decide, by decide⟩, w3, fv, _, ff, _, rfl, hw3, hf.up (.of s1), ⟨_, _, _, rfl⟩, by have := G.depth_kid hmem; omega, by omega, by have := cnt_kid hmem; omega, fun iv H2 t' e2 hiv hfoot => ?_⟩
        have s2 := s1.trans e2
        refine ⟨tv, rfl, _, rfl, _, ht.up (.of s2), fun h3 H3 e3 hh3 => ?_⟩
        rw [cutD_take (i := 3) (k := 3) rfl (by simp)] at hh3
        refine t3 (s2.trans e3) rfl fun w4 hw4 => ?_
        refine ⟨_, rfl, _, rfl, _, hw4, fun h4 H4 e4 hh4 => ?_⟩
        rw [cutD_take (k := k) rfl (by rw [lenE]; omega)] at hh4
        refine ⟨_, rfl, _, rl_one (hiv.up (.of (e3.trans e4))), by simp, fun h5 H5 e5 hh5 => ?_⟩
        refine ⟨_, _, hh4.up (.of e5), hh5, Nat.le_of_lt (small (by simp only [List.length_take, List.length_map, List.length_singleton]; omega)), fun h6 H6 e6 hh6 => ?_⟩
        refine t3 (s2.trans (e3.trans (e4.trans (e5.trans e6)))) rfl fun w7 hw7 => ?_
        refine ⟨_, rfl, _, _, rfl, rfl, _, rfl, _, hw7, fun h7 H7 e7 hh7 => ?_⟩
        rw [cutD_drop (k := k + 1) (by omega) (by rw [lenE]; omega)] at hh7
        refine ⟨_, _, hh6.up (.of e7), hh7, Nat.le_of_lt (small (by simp only [List.length_append, List.length_take, List.length_drop, List.length_map, List.length_singleton]; omega)), fun h8 H8 e8 hh8 => ?_⟩
        refine ⟨_, rl_one hh8, by simp, fun h9 H9 e9 hh9 => ?_⟩
        refine ⟨_, _, hh3.up (.of (e4.trans (e5.trans (e6.trans (e7.trans (e8.trans e9)))))), hh9, Nat.le_of_lt (small (by simp)), fun r H10 e10 hr10 => ?_⟩
        refine q r H10 (.knot m tk (ks.take k ++ t' :: ks.drop (k + 1))) (s2.trans (e3.trans (e4.trans (e5.trans (e6.trans (e7.trans (e8.trans (e9.trans e10)))))))) ?_ ?_
        · rw [encT, encTs_map]
          simp only [List.map_append, List.map_cons, List.map_take, List.map_drop]
          simpa using hr10
        · have h := G.Foot.deep (n := m) (tk := tk) (a := ks.take k) (b := ks.drop (k + 1)) hfoot
          have e : ks.take k ++ (Tre.knot m' tk' ks') :: ks.drop (k + 1) = ks := by
            have h1 : ks[k] = .knot m' tk' ks' := (List.getElem?_eq_some_iff.mp hk).2
            rw [← h1, ← List.drop_eq_getElem_cons hkl', List.take_append_drop]
          rw [e] at h
          exact h
      · exact behind
    · refine iteF' rfl ?_
      exact behind
theorem ok_footed (S : Std K mg "_law_footed" sFooted ["tree", "foot", "cell"] f fd) (B : Blt mg) : ∀ n, Cal P w K mg base "_law_footed" (n + 1) ["tree", "foot", "cell"] (spFooted n)
  | 0 => S.cal (fn_never fun vs H Q E h => by
      obtain ⟨tv, fv, t, ff, c, _, _, _, _, hd, _⟩ := h
      omega)
  | n + 1 => S.cal (ok_footed_step S.fn (ok_footed S B n) B)
end
end L2.Gs
set_option Elab.async false
set_option linter.all false
set_option maxRecDepth 100000
set_option maxHeartbeats 4000000
namespace L2.Gs
open PySem PySem.Spec PyProof.Rows
open _root_.G (Tre Plan Trees)
theorem Ls.ins {H : Hp} {l : Addr} {ds : List D} {d : D} {v : V} {vs : List V} (j : Nat) (h : H l = some (.lst vs)) (r : RpL H ds vs) (hv : Rp H d v) : Ls (upd H l (.lst (vs.take j ++ [v] ++ vs.drop j))) l (ds.take j ++ [d] ++ ds.drop j) :=
  ⟨_, upd_same, (((r.take j).app (rl_one hv)).app (r.drop j)).up (.upd (.lst h))⟩
theorem mem_ins {α : Type} {l : List α} {a b : α} (j : Nat) : b ∈ l.take j ++ [a] ++ l.drop j ↔ b = a ∨ b ∈ l := by
  have e : b ∈ l ↔ b ∈ l.take j ∨ b ∈ l.drop j := by
    rw [← List.mem_append, List.take_append_drop]
  rw [e]
  simp only [List.mem_append, List.mem_singleton]
  constructor
  · rintro ((h | h) | h)
    · exact .inr (.inl h)
    · exact .inl h
    · exact .inr (.inr h)
  · rintro (h | h | h)
    · exact .inl (.inr h)
    · exact .inl (.inl h)
    · exact .inr h
theorem len_ins {α : Type} {l : List α} {a : α} (j : Nat) : (l.take j ++ [a] ++ l.drop j).length = l.length + 1 := by
  simp only [List.length_append, List.length_take, List.length_drop, List.length_singleton]; omega
theorem sum_ins (l : List Tre) (a : Tre) (j : Nat) : ((l.take j ++ [a] ++ l.drop j).map G.cnt).sum = (l.map G.cnt).sum + G.cnt a := by
  have e : (l.map G.cnt).sum = ((l.take j).map G.cnt).sum + ((l.drop j).map G.cnt).sum := by
    rw [← List.sum_append, ← List.map_append, List.take_append_drop]
  rw [e]
  simp only [List.map_append, List.sum_append, List.map_cons, List.map_nil, List.sum_cons, List.sum_nil]
  omega
theorem map_ins {α β : Type} (g : α → β) (l : List α) (a : α) (j : Nat) : (l.take j ++ [a] ++ l.drop j).map g = (l.map g).take j ++ [g a] ++ (l.map g).drop j := by
  simp only [List.map_append, List.map_cons, List.map_nil, List.map_take, List.map_drop]
section
variable {P : Program} {w : World} {K : PySem.W.Frag} {mg : Str → Option Value} {base : Heap} {f : Addr} {fd : FuncData}
/-! ### _law_drawn -/
def spDrawn (K : PySem.W.Frag) : Sp := fun vs H Q _ => ∃ (st sc : Addr) (ns : List Int), vs = [.ref st, .int 2] ∧ StOk K sc ns H st ∧ ∀ r H' t, Kp st H H' → StD sc H' st → Rp H' (encT t) r → G.TreeOk t → Q r H'
theorem scDrawn : FnScope ["state", "left", "cell", "takes", "kids", "k", "tree"] ["state", "left"] (defScope sDrawn) := ⟨rfl, rfl, rfl, by decide +kernel, rfl, by decide +kernel, by decide +kernel⟩
theorem ok_drawn (F : Fun K "_law_drawn" "_law_drawn" sDrawn f fd) (CC : Cal P w K mg base "_law_cell" 1 ["state"] (spCell (K := K))) (CI : Cal P w K mg base "_law_kid" 4 ["state", "left"] (spKid K 3)) (CF : Cal P w K mg base "_law_footed" 6 ["tree", "foot", "cell"] (spFooted 5)) (B : Blt mg) :
    FnOk P w K mg base CX0 7 f fd ["state", "left"] (spDrawn K) := by
  refine F.ok scDrawn (fun vs H Q E h => ?_) (fun cdv A outer s H vs Q E hr h => ?_)
  · obtain ⟨st, sc, ns, rfl, _⟩ := h
    rfl
  obtain ⟨st, sc, ns, rfl, hok, q⟩ := h
  have nd := scDrawn.nd
  have hr1 : Room 1 _ := hr.mono (by decide)
  have hr4 : Room 4 _ := hr.mono (by decide)
  refine ⟨_, pss_cons (ps_set (i := 2) nd rfl (Or.inl rfl) (pe_cal CC hr1 (pa_cons (pv 0) pa_nil)))
    (pss_cons (ps_set (i := 3) nd rfl (Or.inl rfl) (pe_ix ix_LD (pe_lstD (pa_cons pe_non (pa_cons (pe_tupD (pa_cons pe_str (pa_cons pe_bl pa_nil))) (pa_cons (pe_tupD (pa_cons pe_str (pa_cons pe_bl pa_nil))) (pa_cons (pe_tupD (pa_cons pe_str (pa_cons pe_bl pa_nil))) pa_nil))))) (pe_op op_mod (pv 2) pe_int) (fun _ _ => rfl)))
    (pss_cons (ps_set (i := 4) nd rfl (Or.inl rfl) (pe_lstD (pa_cons (pe_tupD (pa_cons pe_str (pa_cons (pe_ix ix_LD (pe_lstD (pa_cons pe_str (pa_cons pe_str pa_nil))) (pe_op op_mod (pe_op op_fdiv (pv 2) pe_int) pe_int) (fun _ _ => rfl)) pa_nil))) pa_nil)))
    (pss_cons (ps_for PassesOwn.never rfl (pi_range1 rfl B.range (pa_cons (pe_op op_mod (pe_op op_fdiv (pv 2) pe_int) pe_int) pa_nil)) (pg_name (i := 5) nd rfl (Or.inl rfl))
      (pss_one (ps_expr (pe_bm PySem.F.plainAttrs_list PySem.F.slot_list_insert PySem.F.type_list_insert mt_insert (pv 4) (pa_cons (pe_op op_mod (pe_op op_fdiv (pv 2) pe_int) (pe_op op_add (pe_callB call_lenLD rfl B.len PySem.boot_len (pa_cons (pv 4) pa_nil)) pe_int)) (pa_cons (pe_cal CI hr4 (pa_cons (pv 0) (pa_cons (pv 1) pa_nil))) pa_nil))))))
    (pss_cons (ps_set (i := 6) nd rfl (Or.inl rfl) (pe_tupD (pa_cons pe_str (pa_cons (pe_ix ix_LD (pe_lstD (pa_cons pe_str (pa_cons pe_str (pa_cons pe_str pa_nil)))) (pe_op op_mod (pe_op op_fdiv (pv 2) pe_int) pe_int) (fun _ _ => rfl)) (pa_cons (pv 3) (pa_cons (pe_callTy call_tupD rfl B.tup (by decide +kernel) (pa_cons (pv 4) pa_nil)) pa_nil))))))
    (pss_cons (ps_if (pt_cmpR op_eq (pe_op op_mod (pe_op op_fdiv (pv 2) pe_int) pe_int) pe_int (nomark _)) (pss_one (ps_ret (pv 6))) pss_nil)
    (pss_one (ps_ret (pe_cal CF hr (pa_cons (pv 6) (pa_cons (pe_tupD (pa_cons pe_str (pa_cons (pe_ix ix_LD (pe_lstD (pa_cons pe_str (pa_cons pe_str (pa_cons pe_str pa_nil)))) (pe_op op_mod (pe_op op_fdiv (pv 2) pe_int) pe_int) (fun _ _ => rfl)) pa_nil))) (pa_cons (pe_op op_fdiv (pv 2) pe_int) pa_nil))))))))))), ?_⟩
  refine ⟨_, rfl, st, sc, ns, rfl, hok, fun c H1 k1 s1 => ?_⟩
  -- takes
  refine ⟨_, rl_cons rp_str (rl_one rp_bl), by simp, fun t1 H5 e5 ht1 => ?_⟩
  refine ⟨_, rl_cons rp_str (rl_one rp_bl), by simp, fun t2 H6 e6 ht2 => ?_⟩
  refine ⟨_, rl_cons rp_str (rl_one rp_bl), by simp, fun t3 H7 e7 ht3 => ?_⟩
  refine ⟨[encTk none, encTk (some ("S1", false)), encTk (some ("S2", false)), encTk (some ("S1", true))], rl_cons rp_non (rl_cons (ht1.up ((TM.of e6).trans (.of e7))) (rl_cons (ht2.up (.of e7)) (rl_one ht3))), by simp, fun l8 H8 e8 n8 hl8 => ?_⟩
  refine ⟨_, rfl, _, _, rfl, rfl, (by show (0 : Int) < 4; decide), ?_⟩
  have pick : ∃ tk d, L2.atI [encTk none, encTk (some (("S1" : Str), false)), encTk (some ("S2", false)), encTk (some ("S1", true))] (c % 4) = some d ∧ d = encTk tk ∧ ∀ n ks, G.MustNm (.knot n tk ks) := by
    obtain ⟨d, a, b⟩ := atI_in (ds := [encTk none, encTk (some (("S1" : Str), false)), encTk (some (("S2" : Str), false)), encTk (some (("S1" : Str), true))]) (i := c % 4) (Int.emod_nonneg _ (by decide)) (Int.emod_lt_of_pos _ (by decide))
    rcases List.mem_cons.mp b with rfl | b
    · exact ⟨none, _, a, rfl, fun n ks g m bb e => by simp [G.want] at e⟩
    rcases List.mem_cons.mp b with rfl | b
    · exact ⟨some ("S1", false), _, a, rfl, fun n ks g m bb e => by have e' : some (true, ("S1" : Str), false) = some (g, m, bb) := e; cases e'; exact ⟨.inl (.inr (.inl rfl)), fun z => by cases z⟩⟩
    rcases List.mem_cons.mp b with rfl | b
    · exact ⟨some ("S2", false), _, a, rfl, fun n ks g m bb e => by have e' : some (true, ("S2" : Str), false) = some (g, m, bb) := e; cases e'; exact ⟨.inl (.inr (.inr rfl)), fun z => by cases z⟩⟩
    rcases List.mem_cons.mp b with rfl | b
    · exact ⟨some ("S1", true), _, a, rfl, fun n ks g m bb e => by have e' : some (true, ("S1" : Str), true) = some (g, m, bb) := e; cases e'; exact ⟨.inl (.inr (.inl rfl)), fun _ => .inr (.inl rfl)⟩⟩
    · cases b
  obtain ⟨tk, d, pk1, rfl, hmust⟩ := pick
  refine ⟨l8, _, _, _, rfl, hl8, rfl, pk1, fun tkv htkv => ?_⟩
  have k8 : Kp st H H8 := k1.trans (Kp.of (e5.trans (e6.trans (e7.trans e8))))
  have s8 := s1.same (e5.trans (e6.trans (e7.trans e8)))
  -- kids
  refine ⟨_, rl_cons rp_str (rl_one rp_str), by simp, fun la Ha ea na hla => ?_⟩
  refine ⟨_, rfl, _, _, rfl, rfl, ⟨by decide, by decide⟩, _, _, rfl, rfl, (by show (0 : Int) < 2; decide), ?_⟩
  refine pick2 hla (Int.emod_nonneg _ (by decide)) (Int.emod_lt_of_pos _ (by decide)) fun sg _ => ?_
  refine ⟨_, rl_cons rp_str (rl_one rp_str), by simp, fun sv Hb eb hsv => ?_⟩
  have hsg : Rp Hb (encT (.sign sg)) sv := by rw [encT]; exact hsv
  refine ⟨[encT (.sign sg)], rl_one hsg, by simp, fun kl H9 e9 hkl l9 => ?_⟩
  have k9 : Kp st H H9 := k8.trans (Kp.of (ea.trans (eb.trans e9)))
  have s9 := s8.same (ea.trans (eb.trans e9))
  have hkl0 : H kl = none := (k8.trans (Kp.of (ea.trans eb))).free (s8.same (ea.trans eb)) hkl
  have klst : kl ≠ st := (s8.same (ea.trans eb)).ne hkl
  have tk9 : Rp H9 (encTk tk) tkv := htkv.up (.of (ea.trans (eb.trans e9)))
  refine ⟨_, rfl, _, _, rfl, rfl, ⟨by decide, by decide⟩, _, _, rfl, rfl, (by show (0 : Int) < 3; decide), ?_⟩
  have b1 : 0 ≤ c / 8 % 3 := Int.emod_nonneg _ (by decide)
  have b2 : c / 8 % 3 < 3 := Int.emod_lt_of_pos _ (by decide)
  refine ⟨c / 8 % 3, rfl, by omega, by omega, ?_⟩
  refine for_range (lo := 0) (n := (c / 8 % 3).toNat) (fun i σ H' => ∃ o5 ts, σ = [some (.ref st), some (.int 2), some (.int c), some tkv, some (.ref kl), o5, none] ∧ Kp st H H' ∧ StD sc H' st ∧ TM H9 H' ∧
      Ls H' kl (ts.map encT) ∧ ts.length = i + 1 ∧ (∀ t ∈ ts, G.KidOk 2 t) ∧ (ts.map G.cnt).sum ≤ 1 + 13 * i)
    ⟨none, [.sign sg], rfl, k9, s9, TM.refl _, l9, rfl, fun t ht => ?_, by simp [G.cnt, G.places]⟩ ?_ ?_
  · rw [List.mem_singleton.mp ht]
    exact .leaf (fun _ _ _ => by simp) (fun _ => by simp) (fun g n b e => by simp [G.want] at e)
  · rintro i σ H10 hi ⟨o5, ts, rfl, k10, s10, tm10, ⟨acc, hacc, hal⟩, hlen, hts, hsum⟩
    have hacl : acc.length = i + 1 := by rw [hal.len, List.length_map, hlen]
    refine ⟨_, rfl, .inl ⟨rfl, _, SqL.of hacc⟩, ?_⟩
    refine ⟨_, rfl, _, _, rfl, rfl, ⟨by decide, by decide⟩, _, rfl, kl, _, rfl, ⟨acc, hacc, hal⟩, _, _, rfl, rfl, ?_⟩
    rw [List.length_map]
    refine ⟨_, _, rfl, rfl, (by show (0 : Int) < ((ts.length : Nat) : Int) + 1; omega), ?_⟩
    have a0 : 0 ≤ c / 24 % (((ts.length : Nat) : Int) + 1) := Int.emod_nonneg _ (by omega)
    have a1 : c / 24 % (((ts.length : Nat) : Int) + 1) < ((ts.length : Nat) : Int) + 1 := Int.emod_lt_of_pos _ (by omega)
    refine ⟨_, rfl, _, rfl, st, sc, ns, 2, rfl, hok.re k10 s10, by omega, by omega, fun r H11 t k11 s11 hr11 hkt => ?_⟩
    have hacc11 := k11 _ _ klst hacc
    have tm11 := k11.tm s10
    refine ⟨kl, acc, _, r, rfl, rfl, hacc11, small (by omega), a0, by omega, ?_⟩
    refine ⟨_, ts.take (c / 24 % (((ts.length : Nat) : Int) + 1)).toNat ++ [t] ++ ts.drop (c / 24 % (((ts.length : Nat) : Int) + 1)).toNat, rfl, kUpd (k10.trans k11) hkl0, s11.upd klst, tm10.trans (tm11.trans (.upd (.lst hacc11))), ?_, by rw [len_ins]; omega, fun t' ht' => ?_, ?_⟩
    · rw [map_ins]
      exact Ls.ins _ hacc11 (hal.up tm11) hr11
    · rcases (mem_ins _).mp ht' with e | ht'
      · rw [e]; exact hkt
      · exact hts t' ht'
    · rw [sum_ins]
      have h1 := hkt.cn
      have h2 : G.capK 2 = 13 := by decide
      omega
  · rintro σ H10 ⟨o5, ts, rfl, k10, s10, tm10, l10, hlen, hts, hsum⟩
    refine ⟨_, rl_cons rp_str (rl_cons rp_str (rl_one rp_str)), by simp, fun l11 H11 e11 n11 hl11 => ?_⟩
    refine ⟨_, rfl, _, _, rfl, rfl, ⟨by decide, by decide⟩, _, _, rfl, rfl, (by show (0 : Int) < 3; decide), ?_⟩
    refine pick3 hl11 (Int.emod_nonneg _ (by decide)) (Int.emod_lt_of_pos _ (by decide)) fun nm hnm => ?_
    have hnm' : G.Nm nm := hnm
    refine ⟨_, rfl, _, rfl, kl, _, rfl, l10.same e11, fun kv H12 e12 hkv => ?_⟩
    refine ⟨[.str "knot", .str nm, encTk tk, .tup (ts.map encT)], rl_cons rp_str (rl_cons rp_str (rl_cons (tk9.up (tm10.trans ((TM.of e11).trans (.of e12)))) (rl_one hkv))), by simp, fun tv H13 e13 htv => ?_⟩
    have htv' : Rp H13 (encT (.knot nm tk ts)) tv := by rw [encT, encTs_map]; exact htv
    obtain ⟨okT, fT, cT, dT⟩ := G.drawn_ok (n := nm) (tk := tk) (ks := ts) hnm' (hmust _ _) (by omega) hts (by omega)
    have k13 := k10.trans (Kp.of (e11.trans (e12.trans e13)))
    have s13 := s10.same (e11.trans (e12.trans e13))
    refine ⟨_, rfl, _, _, rfl, rfl, ⟨by decide, by decide⟩, _, _, rfl, rfl, (by show (0 : Int) < 2; decide), rfl, _, rfl, ?_⟩
    refine ite2 (fun c1 => ?_) (fun c1 => ?_)
    · exact ⟨_, rfl, q _ _ _ k13 s13 htv' okT⟩
    · refine ⟨_, rfl, ?_⟩
      refine ⟨_, rl_cons rp_str (rl_cons rp_str (rl_one rp_str)), by simp, fun l14 H14 e14 n14 hl14 => ?_⟩
      refine ⟨_, rfl, _, _, rfl, rfl, ⟨by decide, by decide⟩, _, _, rfl, rfl, (by show (0 : Int) < 3; decide), ?_⟩
      refine pick3 hl14 (Int.emod_nonneg _ (by decide)) (Int.emod_lt_of_pos _ (by decide)) fun fm hfm => ?_
      refine ⟨_, rl_cons rp_str (rl_one rp_str), by simp, fun fv H15 e15 hfv => ?_⟩
      refine ⟨_, rfl, _, _, rfl, rfl, ⟨by decide, by decide⟩, tv, fv, _, fm, _, rfl, htv'.up (.of (e14.trans e15)), (by rw [encT]; exact hfv), ⟨_, _, _, rfl⟩, by omega, by omega, by omega, fun r H16 t' e16 hr16 hfoot => ?_⟩
      exact q r H16 t' (k13.trans (Kp.of (e14.trans (e15.trans e16)))) (s13.same (e14.trans (e15.trans e16))) hr16 (G.footed_ok hfoot hfm hnm' fT cT dT okT.mu)
end
end L2.Gs
set_option Elab.async false
set_option linter.all false
set_option maxRecDepth 100000
set_option maxHeartbeats 4000000
namespace L2.Gs
open PySem PySem.Spec PyProof.Rows
open _root_.G (Tre Plan Trees)
/-! ### the six trees that every book has -/
def Free (t : Tre) : Prop := ∀ s ∈ G.subs t, G.want s = none
theorem leaf_free {t : Tre} (hk : ∀ n tk ks, t ≠ .knot n tk ks) (h : G.want t = none) : Free t := by
  intro s hs
  rw [G.subs_all] at hs
  cases t with
  | knot n tk ks => exact absurd rfl (hk n tk ks)
  | _ => simp at hs; subst hs; exact h
theorem knot_free {n : Str} {ks : List Tre} (h : ∀ c ∈ ks, Free c) : Free (.knot n none ks) := by
  intro s hs
  rw [G.subs_knot] at hs
  rcases List.mem_cons.mp hs with e | hs
  · subst e; rfl
  · obtain ⟨c, hc, hs⟩ := List.mem_flatMap.mp hs
    exact h c hc s hs
theorem free_must {t : Tre} (h : Free t) : G.MustOk t := fun s hs g n b e => by rw [h s hs] at e; cases e
theorem sign_free (s : Str) : Free (.sign s) := leaf_free (fun _ _ _ => by simp) rfl
theorem foot_free (s : Str) : Free (.foot s) := leaf_free (fun _ _ _ => by simp) rfl
theorem cnt_leaf (t : Tre) (hk : ∀ n tk ks, t ≠ .knot n tk ks) : G.cnt t = 1 := by
  cases t with
  | knot n tk ks => exact absurd rfl (hk n tk ks)
  | _ => simp [G.cnt, G.places]
theorem base_start {nm sg : Str} (h : G.Nm nm) : G.TreeOk (.knot nm none [.sign sg]) ∧ Free (.knot nm none [.sign sg]) ∧ G.called (.knot nm none [.sign sg]) = (false, nm) := by
  have fr : Free (.knot nm none [.sign sg]) := knot_free fun c hc => by rw [List.mem_singleton.mp hc]; exact sign_free sg
  have ft : G.feet (.knot nm none [.sign sg]) = [] := by rw [G.feet_knot]; simp [G.feet, G.subs_all, G.footN]
  refine ⟨⟨⟨_, _, _, rfl⟩, h, (by rw [ft]; simp), by rw [ft]; simp, by rw [G.cnt_knot]; simp [G.cnt, G.places], by simp [G.depth, G.depthL], free_must fr⟩, fr, ?_⟩
  unfold G.called
  rw [ft]
  rfl
theorem base_graft {nm sg : Str} (h : G.Nm nm) (b : Bool) : G.TreeOk (.knot nm none (if b then [.sign sg, .foot nm] else [.foot nm, .sign sg])) ∧ Free (.knot nm none (if b then [.sign sg, .foot nm] else [.foot nm, .sign sg])) ∧
    G.called (.knot nm none (if b then [.sign sg, .foot nm] else [.foot nm, .sign sg])) = (true, nm) := by
  cases b with
  | true =>
    show G.TreeOk (.knot nm none [.sign sg, .foot nm]) ∧ Free (.knot nm none [.sign sg, .foot nm]) ∧ G.called (.knot nm none [.sign sg, .foot nm]) = (true, nm)
    have fr : Free (.knot nm none [.sign sg, .foot nm]) := knot_free fun c hc => by
      rcases List.mem_cons.mp hc with rfl | hc
      · exact sign_free sg
      · rw [List.mem_singleton.mp hc]; exact foot_free nm
    have ft : G.feet (.knot nm none [.sign sg, .foot nm]) = [nm] := by rw [G.feet_knot]; simp [G.feet, G.subs_all, G.footN]
    refine ⟨⟨⟨_, _, _, rfl⟩, h, (by rw [ft]; simpa using h), by rw [ft]; simp, by rw [G.cnt_knot]; simp [G.cnt, G.places], by simp [G.depth, G.depthL], free_must fr⟩, fr, ?_⟩
    unfold G.called
    rw [ft]
  | false =>
    show G.TreeOk (.knot nm none [.foot nm, .sign sg]) ∧ Free (.knot nm none [.foot nm, .sign sg]) ∧ G.called (.knot nm none [.foot nm, .sign sg]) = (true, nm)
    have fr : Free (.knot nm none [.foot nm, .sign sg]) := knot_free fun c hc => by
      rcases List.mem_cons.mp hc with rfl | hc
      · exact foot_free nm
      · rw [List.mem_singleton.mp hc]; exact sign_free sg
    have ft : G.feet (.knot nm none [.foot nm, .sign sg]) = [nm] := by rw [G.feet_knot]; simp [G.feet, G.subs_all, G.footN]
    refine ⟨⟨⟨_, _, _, rfl⟩, h, (by rw [ft]; simpa using h), by rw [ft]; simp, by rw [G.cnt_knot]; simp [G.cnt, G.places], by simp [G.depth, G.depthL], free_must fr⟩, fr, ?_⟩
    unfold G.called
    rw [ft]
def nmI : Nat → Str
  | 0 => "S"
  | 1 => "S1"
  | _ => "S2"
theorem nmI_nm (i : Nat) : G.Nm (nmI i) := by
  match i with
  | 0 => exact .inl rfl
  | 1 => exact .inr (.inl rfl)
  | _ + 2 => exact .inr (.inr rfl)
theorem nmI_at {i : Nat} (h : i < 3) : L2.atI [D.str "S", D.str "S1", D.str "S2"] (0 + (i : Int)) = some (.str (nmI i)) := by
  match i, h with
  | 0, _ => exact at_ofG (j := 0) rfl rfl
  | 1, _ => exact at_ofG (j := 1) rfl rfl
  | 2, _ => exact at_ofG (j := 2) rfl rfl
/-- the trees laid so far: of the first i names all that every book has -/
structure Laid (i : Nat) (ts : Trees) : Prop where
  ok : ∀ k t, (k, t) ∈ ts → G.TreeOk t
  base : ∀ k t, (k, t) ∈ ts → k ∈ G.baseKeys → Free t
  has : ∀ j, j < i → ∀ g, ∃ k t, k ∈ G.baseKeys ∧ (k, t) ∈ ts ∧ G.called t = (g, nmI j)
theorem Laid.add {i : Nat} {ts ts' : Trees} {k : Str} {t : Tre} (h : Laid i ts) (hm : ∀ x, x ∈ ts' ↔ x = (k, t) ∨ x ∈ ts) (ht : G.TreeOk t) (hf : k ∈ G.baseKeys → Free t) : Laid i ts' := by
  refine ⟨fun k' t' h' => ?_, fun k' t' h' hk => ?_, fun j hj g => ?_⟩
  · rcases (hm _).mp h' with e | h'
    · cases e; exact ht
    · exact h.ok k' t' h'
  · rcases (hm _).mp h' with e | h'
    · cases e; exact hf hk
    · exact h.base k' t' h' hk
  · obtain ⟨k', t', a, b, c⟩ := h.has j hj g
    exact ⟨k', t', a, (hm _).mpr (.inr b), c⟩
theorem Laid.trees {ts : Trees} (h : Laid 3 ts) (hl : ts.length ≤ 11) : G.TreesOk ts := by
  refine ⟨hl, h.ok, h.base, fun g n hn => ?_⟩
  rcases hn with rfl | rfl | rfl
  · exact h.has 0 (by omega) g
  · exact h.has 1 (by omega) g
  · exact h.has 2 (by omega) g
section
variable {P : Program} {w : World} {K : PySem.W.Frag} {mg : Str → Option Value} {base : Heap} {f : Addr} {fd : FuncData}
/-! ### _law_book -/
def spBook (K : PySem.W.Frag) : Sp := fun vs H Q _ => ∃ (st sc : Addr) (ns : List Int) (m : Int), vs = [.ref st, .int m, .int 2] ∧ StOk K sc ns H st ∧ 0 ≤ m ∧ m ≤ 5 ∧ ∀ r H' top ts, Kp st H H' → StD sc H' st → Rp H' (encB top ts) r → G.TreesOk ts → G.Nm top → Q r H'
theorem scBook : FnScope ["state", "many", "left", "cell", "trees", "k", "name", "foot", "kids", "key"] ["state", "many", "left"] (defScope sBook) := ⟨rfl, rfl, rfl, by decide +kernel, rfl, by decide +kernel, by decide +kernel⟩
theorem fmod2 (x : Int) : 0 ≤ x % 2 ∧ x % 2 < 2 := ⟨Int.emod_nonneg _ (by decide), Int.emod_lt_of_pos _ (by decide)⟩
theorem ok_book (F : Fun K "_law_book" "_law_book" sBook f fd) (CC : Cal P w K mg base "_law_cell" 1 ["state"] (spCell (K := K))) (CD : Cal P w K mg base "_law_drawn" 7 ["state", "left"] (spDrawn K)) (B : Blt mg) :
    FnOk P w K mg base CX0 8 f fd ["state", "many", "left"] (spBook K) := by
  refine F.ok scBook (fun vs H Q E h => ?_) (fun cdv A outer s H vs Q E hr h => ?_)
  · obtain ⟨st, sc, ns, m, rfl, _⟩ := h
    rfl
  obtain ⟨st, sc, ns, m, rfl, hok, hm0, hm5, q⟩ := h
  have nd := scBook.nd
  have hr1 : Room 1 _ := hr.mono (by decide)
  refine ⟨_, pss_cons (ps_set (i := 3) nd rfl (Or.inl rfl) (pe_cal CC hr1 (pa_cons (pv 0) pa_nil)))
    (pss_cons (ps_set (i := 4) nd rfl (Or.inl rfl) (pe_lst pa_nil))
    (pss_cons (ps_for PassesOwn.never rfl (pi_range1 rfl B.range (pa_cons pe_int pa_nil)) (pg_name (i := 5) nd rfl (Or.inl rfl))
      (pss_cons (ps_set (i := 6) nd rfl (Or.inl rfl) (pe_ix ix_LD (pe_lstD (pa_cons pe_str (pa_cons pe_str (pa_cons pe_str pa_nil)))) (pv 5) (fun _ _ => rfl)))
      (pss_cons (ps_expr (pe_bm PySem.F.plainAttrs_list PySem.F.slot_list_append PySem.F.type_list_append mt_append (pv 4) (pa_cons (pe_tupD (pa_cons (pe_ix ix_LD (pe_lstD (pa_cons pe_str (pa_cons pe_str (pa_cons pe_str pa_nil)))) (pv 5) (fun _ _ => rfl))
          (pa_cons (pe_tupD (pa_cons pe_str (pa_cons (pv 6) (pa_cons pe_non (pa_cons (pe_tupD (pa_cons (pe_tupD (pa_cons pe_str (pa_cons (pe_ix ix_LD (pe_lstD (pa_cons pe_str (pa_cons pe_str (pa_cons pe_str pa_nil)))) (pv 5) (fun _ _ => rfl)) pa_nil))) pa_nil)) pa_nil))))) pa_nil))) pa_nil)))
      (pss_cons (ps_set (i := 7) nd rfl (Or.inl rfl) (pe_tupD (pa_cons pe_str (pa_cons (pv 6) pa_nil))))
      (pss_cons (ps_set (i := 8) nd rfl (Or.inl rfl) (pe_ix ix_LD (pe_lstD (pa_cons (pe_tupD (pa_cons (pe_tupD (pa_cons pe_str (pa_cons pe_str pa_nil))) (pa_cons (pv 7) pa_nil))) (pa_cons (pe_tupD (pa_cons (pv 7) (pa_cons (pe_tupD (pa_cons pe_str (pa_cons pe_str pa_nil))) pa_nil))) pa_nil)))
          (pe_op op_mod (pe_op op_fdivN (pv 3) (pe_op op_add (pv 5) pe_int)) pe_int) (fun _ _ => rfl)))
      (pss_one (ps_expr (pe_bm PySem.F.plainAttrs_list PySem.F.slot_list_append PySem.F.type_list_append mt_append (pv 4) (pa_cons (pe_tupD (pa_cons (pe_ix ix_LD (pe_lstD (pa_cons pe_str (pa_cons pe_str (pa_cons pe_str pa_nil)))) (pv 5) (fun _ _ => rfl))
          (pa_cons (pe_tupD (pa_cons pe_str (pa_cons (pv 6) (pa_cons pe_non (pa_cons (pv 8) pa_nil))))) pa_nil))) pa_nil)))))))))
    (pss_cons (ps_for PassesOwn.never rfl (pi_range1 rfl B.range (pa_cons (pv 1) pa_nil)) (pg_name (i := 5) nd rfl (Or.inl rfl))
      (pss_cons (ps_set (i := 9) nd rfl (Or.inl rfl) (pe_ix ix_LD (pe_lstD (pa_cons pe_str (pa_cons pe_str (pa_cons pe_str (pa_cons pe_str (pa_cons pe_str pa_nil)))))) (pv 5) (fun _ _ => rfl)))
      (pss_one (ps_expr (pe_bm PySem.F.plainAttrs_list PySem.F.slot_list_insert PySem.F.type_list_insert mt_insert (pv 4) (pa_cons (pe_op op_mod (pe_op op_fdivN (pv 3) (pe_op op_add (pv 5) pe_int)) (pe_op op_add (pe_callB call_lenLD rfl B.len PySem.boot_len (pa_cons (pv 4) pa_nil)) pe_int))
          (pa_cons (pe_tupD (pa_cons (pv 9) (pa_cons (pe_cal CD hr (pa_cons (pv 0) (pa_cons (pv 2) pa_nil))) pa_nil))) pa_nil)))))))
    (pss_one (ps_ret (pe_tupD (pa_cons (pe_ix ix_LD (pe_lstD (pa_cons pe_str (pa_cons pe_str (pa_cons pe_str pa_nil)))) (pe_op op_mod (pe_op op_fdiv (pv 3) pe_int) pe_int) (fun _ _ => rfl)) (pa_cons (pe_callTy call_tupFD rfl B.tup (by decide +kernel) (pa_cons (pv 4) pa_nil)) pa_nil)))))))), ?_⟩
  refine ⟨_, rfl, st, sc, ns, rfl, hok, fun c H1 k1 s1 => ?_⟩
  refine ⟨(by show 0 ≤ sizeLine; decide), fun tl htl => ?_⟩
  have htl0 : H tl = none := k1.free s1 htl
  have tlst : tl ≠ st := s1.ne htl
  have s2 : StD sc (upd H1 tl (.lst [])) st := s1.upd tlst
  have k2 : Kp st H (upd H1 tl (.lst [])) := kUpd k1 htl0
  have l2 : Ls (upd H1 tl (.lst [])) tl (([] : Trees).map encKT) := ⟨[], upd_same, rl_nil⟩
  generalize upd H1 tl (.lst []) = H2 at s2 k2 l2
  refine ⟨3, rfl, by decide, by decide, ?_⟩
  refine for_range (lo := 0) (n := 3) (fun i σ H' => ∃ o5 o6 o7 o8 ts, σ = [some (.ref st), some (.int m), some (.int 2), some (.int c), some (.ref tl), o5, o6, o7, o8, none] ∧ Kp st H H' ∧ StD sc H' st ∧ Ls H' tl (ts.map encKT) ∧ ts.length = 2 * i ∧ Laid i ts)
    ⟨none, none, none, none, [], rfl, k2, s2, l2, rfl, ⟨fun _ _ h => (by cases h), fun _ _ h => (by cases h), fun j hj => absurd hj (by omega)⟩⟩ ?_ ?_
  · rintro i σ H3 hi ⟨o5, o6, o7, o8, ts, rfl, k3, s3, ⟨acc, hacc, hal⟩, hlen, hlaid⟩
    have hacl : acc.length = 2 * i := by rw [hal.len, List.length_map, hlen]
    -- name
    refine ⟨_, rl_cons rp_str (rl_cons rp_str (rl_one rp_str)), by simp, fun la H4 e4 na hla => ?_⟩
    refine ⟨_, rfl, la, _, _, _, rfl, hla, rfl, nmI_at hi, fun nv hnv => ?_⟩
    rw [un_str hnv]
    -- the start
    have hacc4 := e4 _ _ hacc
    refine ⟨_, rfl, .inl ⟨rfl, _, SqL.of hacc4⟩, ?_⟩
    refine ⟨_, rl_cons rp_str (rl_cons rp_str (rl_one rp_str)), by simp, fun lb H5 e5 nb hlb => ?_⟩
    refine ⟨_, rfl, ?_⟩
    refine pick3 hlb (by omega) (by omega) fun key hkey => ?_
    refine ⟨_, rfl, _, rl_cons rp_str (rl_cons rp_str (rl_one rp_str)), by simp, fun lc H6 e6 nc hlc => ?_⟩
    refine ⟨_, rfl, ?_⟩
    refine pick3 hlc (by omega) (by omega) fun sg hsg => ?_
    refine ⟨_, rl_cons rp_str (rl_one rp_str), by simp, fun v1 H7 e7 h1 => ?_⟩
    refine ⟨_, rl_one h1, by simp, fun v2 H8 e8 h2 => ?_⟩
    refine ⟨_, rl_cons rp_str (rl_cons rp_str (rl_cons rp_non (rl_one h2))), by simp, fun v3 H9 e9 h3 => ?_⟩
    refine ⟨_, rl_cons rp_str (rl_one h3), by simp, fun v4 H10 e10 h4 => ?_⟩
    have e410 : Same H4 H10 := e5.trans (e6.trans (e7.trans (e8.trans (e9.trans e10))))
    have hacc10 := e410 _ _ hacc4
    have hal10 := hal.up (.of (e4.trans e410))
    have h4' : Rp H10 (encKT (key, Tre.knot (nmI i) none [.sign sg])) v4 := by
      unfold encKT
      rw [encT, encTs, encTs, encT, encTk]
      exact h4
    refine ⟨tl, acc, v4, rfl, rfl, hacc10, small (by omega), ?_⟩
    have l11 : Ls (upd H10 tl (.lst (acc ++ [v4]))) tl ((ts ++ [(key, Tre.knot (nmI i) none [.sign sg])]).map encKT) := by
      rw [List.map_append]
      exact Ls.push hacc10 hal10 h4'
    have k11 : Kp st H (upd H10 tl (.lst (acc ++ [v4]))) := kUpd (k3.trans (Kp.of (e4.trans e410))) htl0
    have s11 : StD sc (upd H10 tl (.lst (acc ++ [v4]))) st := (s3.same (e4.trans e410)).upd tlst
    generalize upd H10 tl (.lst (acc ++ [v4])) = H11 at l11 k11 s11
    obtain ⟨bs1, bs2, bs3⟩ := base_start (sg := sg) (nmI_nm i)
    have hkb : key ∈ G.baseKeys := by rcases hkey with rfl | rfl | rfl <;> decide +kernel
    have laid1 : Laid i (ts ++ [(key, Tre.knot (nmI i) none [.sign sg])]) := hlaid.add (fun x => by rw [List.mem_append, List.mem_singleton]; exact or_comm) bs1 fun _ => bs2
    -- foot
    refine ⟨_, rfl, _, rl_cons rp_str (rl_one rp_str), by simp, fun fv H12 e12 hfv => ?_⟩
    have hfv' : Rp H12 (encT (.foot (nmI i))) fv := by rw [encT]; exact hfv
    -- kids
    refine ⟨_, rl_cons rp_str (rl_one rp_str), by simp, fun u1 H13 e13 hu1 => ?_⟩
    have hu1' : Rp H13 (encT (.sign "b")) u1 := by rw [encT]; exact hu1
    refine ⟨_, rfl, _, rl_cons hu1' (rl_one (hfv'.up (.of e13))), by simp, fun u2 H14 e14 hu2 => ?_⟩
    refine ⟨_, rfl, _, rl_cons rp_str (rl_one rp_str), by simp, fun u3 H15 e15 hu3 => ?_⟩
    have hu3' : Rp H15 (encT (.sign "a")) u3 := by rw [encT]; exact hu3
    refine ⟨_, rl_cons (hfv'.up (.of (e13.trans (e14.trans e15)))) (rl_one hu3'), by simp, fun u4 H16 e16 hu4 => ?_⟩
    refine ⟨_, rl_cons (hu2.up (.of (e15.trans e16))) (rl_one hu4), by simp, fun ld H17 e17 nd' hld => ?_⟩
    refine ⟨_, rfl, _, rfl, _, _, rfl, rfl, _, _, rfl, rfl, ⟨by omega, by omega⟩, _, _, rfl, rfl, (by show (0 : Int) < 2; decide), ?_⟩
    refine pickD hld (fmod2 _).1 (fmod2 _).2 fun d hd kv hkv => ?_
    obtain ⟨bb, sg2, rfl⟩ : ∃ (bb : Bool) (sg2 : Str), d = .tup ((if bb then [Tre.sign sg2, .foot (nmI i)] else [.foot (nmI i), .sign sg2]).map encT) := by
      rcases List.mem_cons.mp hd with rfl | hd
      · exact ⟨true, _, rfl⟩
      · rw [List.mem_singleton.mp hd]
        exact ⟨false, _, rfl⟩
    -- the graft
    have e1117 : Same H11 H17 := e12.trans (e13.trans (e14.trans (e15.trans (e16.trans e17))))
    obtain ⟨acc2, hacc2, hal2⟩ := l11
    have hacl2 : acc2.length = 2 * i + 1 := by rw [hal2.len, List.length_map, List.length_append, hlen]; rfl
    have hacc17 := e1117 _ _ hacc2
    refine ⟨_, rfl, .inl ⟨rfl, _, SqL.of hacc17⟩, ?_⟩
    refine ⟨_, rl_cons rp_str (rl_cons rp_str (rl_one rp_str)), by simp, fun le H18 e18 ne hle => ?_⟩
    refine ⟨_, rfl, ?_⟩
    refine pick3 hle (by omega) (by omega) fun key2 hkey2 => ?_
    refine ⟨_, rfl, _, rfl, _, rl_cons rp_str (rl_cons rp_str (rl_cons rp_non (rl_one (hkv.up (.of e18))))), by simp, fun w3 H19 e19 h5 => ?_⟩
    refine ⟨_, rl_cons rp_str (rl_one h5), by simp, fun w4 H20 e20 h6 => ?_⟩
    have e1720 : Same H17 H20 := e18.trans (e19.trans e20)
    have hacc20 := e1720 _ _ hacc17
    have h6' : Rp H20 (encKT (key2, Tre.knot (nmI i) none (if bb then [Tre.sign sg2, .foot (nmI i)] else [.foot (nmI i), .sign sg2]))) w4 := by
      unfold encKT
      rw [encT, encTs_map, encTk]
      exact h6
    obtain ⟨bg1, bg2, bg3⟩ := base_graft (sg := sg2) (nmI_nm i) bb
    have hkb2 : key2 ∈ G.baseKeys := by rcases hkey2 with rfl | rfl | rfl <;> decide +kernel
    refine ⟨tl, acc2, w4, rfl, rfl, hacc20, small (by omega), ?_⟩
    refine ⟨_, _, _, _, (ts ++ [(key, Tre.knot (nmI i) none [.sign sg])]) ++ [(key2, Tre.knot (nmI i) none (if bb then [Tre.sign sg2, .foot (nmI i)] else [.foot (nmI i), .sign sg2]))], rfl, kUpd (k11.trans (Kp.of (e1117.trans e1720))) htl0, (s11.same (e1117.trans e1720)).upd tlst, ?_, ?_, ?_⟩
    · rw [List.map_append]
      exact Ls.push hacc20 (hal2.up (.of (e1117.trans e1720))) h6'
    · rw [List.length_append, List.length_append, hlen]
      show 2 * i + 1 + 1 = 2 * (i + 1)
      omega
    · have laid2 := laid1.add (k := key2) (ts' := (ts ++ [(key, Tre.knot (nmI i) none [.sign sg])]) ++ [(key2, Tre.knot (nmI i) none (if bb then [Tre.sign sg2, .foot (nmI i)] else [.foot (nmI i), .sign sg2]))]) (fun x => by rw [List.mem_append, List.mem_singleton]; exact or_comm) bg1 fun _ => bg2
      refine ⟨laid2.ok, laid2.base, fun j hj g => ?_⟩
      by_cases hji : j < i
      · exact laid2.has j hji g
      · have e : j = i := by omega
        subst e
        cases g with
        | false => exact ⟨key, _, hkb, by simp, bs3⟩
        | true => exact ⟨key2, _, hkb2, by simp, bg3⟩
  · rintro σ H3 ⟨o5, o6, o7, o8, ts0, rfl, k3, s3, l3, hlen0, hlaid0⟩
    refine ⟨_, rfl, m, rfl, by omega, by omega, ?_⟩
    refine for_range (lo := 0) (n := m.toNat) (fun i σ H' => ∃ o5 o9 ts, σ = [some (.ref st), some (.int m), some (.int 2), some (.int c), some (.ref tl), o5, o6, o7, o8, o9] ∧ Kp st H H' ∧ StD sc H' st ∧ Ls H' tl (ts.map encKT) ∧ ts.length = 6 + i ∧ Laid 3 ts)
      ⟨_, none, ts0, rfl, k3, s3, l3, hlen0, hlaid0⟩ ?_ ?_
    · rintro i σ H4 hi ⟨o5', o9, ts, rfl, k4, s4, l4, hlen, hlaid⟩
      refine ⟨_, rl_cons rp_str (rl_cons rp_str (rl_cons rp_str (rl_cons rp_str (rl_one rp_str)))), by simp, fun la H5 e5 na hla => ?_⟩
      refine ⟨_, rfl, ?_⟩
      refine pickD hla (by omega) (by show (0 : Int) + (i : Int) < 5; omega) fun d hd v hv => ?_
      obtain ⟨key, hkey, rfl⟩ : ∃ key : Str, key ∉ G.baseKeys ∧ d = .str key := by
        rcases List.mem_cons.mp hd with rfl | hd
        · exact ⟨_, by decide +kernel, rfl⟩
        rcases List.mem_cons.mp hd with rfl | hd
        · exact ⟨_, by decide +kernel, rfl⟩
        rcases List.mem_cons.mp hd with rfl | hd
        · exact ⟨_, by decide +kernel, rfl⟩
        rcases List.mem_cons.mp hd with rfl | hd
        · exact ⟨_, by decide +kernel, rfl⟩
        rcases List.mem_cons.mp hd with rfl | hd
        · exact ⟨_, by decide +kernel, rfl⟩
        · cases hd
      rw [un_str hv]
      obtain ⟨acc, hacc, hal⟩ := l4.same e5
      have hacl : acc.length = 6 + i := by rw [hal.len, List.length_map, hlen]
      have k5 := k4.trans (Kp.of e5)
      have s5 := s4.same e5
      refine ⟨_, rfl, .inl ⟨rfl, _, SqL.of hacc⟩, ?_⟩
      refine ⟨_, rfl, _, rfl, _, _, rfl, rfl, _, _, rfl, rfl, ⟨by omega, by omega⟩, _, rfl, tl, _, rfl, ⟨acc, hacc, hal⟩, _, _, rfl, rfl, ?_⟩
      rw [List.length_map]
      refine ⟨_, _, rfl, rfl, (by show (0 : Int) < ((ts.length : Nat) : Int) + 1; omega), ?_⟩
      have a0 : ∀ x : Int, 0 ≤ x % (((ts.length : Nat) : Int) + 1) := fun x => Int.emod_nonneg _ (by omega)
      have a1 : ∀ x : Int, x % (((ts.length : Nat) : Int) + 1) < ((ts.length : Nat) : Int) + 1 := fun x => Int.emod_lt_of_pos _ (by omega)
      refine ⟨_, rfl, _, rfl, _, rfl, st, sc, ns, rfl, hok.re k5 s5, fun r H11 t k11 s11 hr11 hkt => ?_⟩
      refine ⟨_, rl_cons rp_str (rl_one hr11), by simp, fun pv' H12 e12 hpv => ?_⟩
      have hacc12 := e12 _ _ (k11 _ _ tlst hacc)
      have tm12 := (k11.tm s5).trans (.of e12)
      refine ⟨tl, acc, _, pv', rfl, rfl, hacc12, small (by omega), a0 _, by have := a1 (c.fdiv (0 + (i : Int) + 7)); omega, ?_⟩
      refine ⟨_, _, ts.take (c.fdiv (0 + (i : Int) + 7) % (((ts.length : Nat) : Int) + 1)).toNat ++ [(key, t)] ++ ts.drop (c.fdiv (0 + (i : Int) + 7) % (((ts.length : Nat) : Int) + 1)).toNat, rfl, kUpd (k5.trans (k11.trans (Kp.of e12))) htl0, (s11.same e12).upd tlst, ?_, by rw [len_ins]; omega, ?_⟩
      · rw [map_ins]
        exact Ls.ins _ hacc12 (hal.up tm12) hpv
      · exact hlaid.add (fun x => mem_ins _) hkt fun hb => absurd hb hkey
    · rintro σ H4 ⟨o5', o9, ts, rfl, k4, s4, l4, hlen, hlaid⟩
      refine ⟨_, rl_cons rp_str (rl_cons rp_str (rl_one rp_str)), by simp, fun la H5 e5 na hla => ?_⟩
      refine ⟨_, rfl, _, _, rfl, rfl, ⟨by decide, by decide⟩, _, _, rfl, rfl, (by show (0 : Int) < 3; decide), ?_⟩
      refine pick3 hla (Int.emod_nonneg _ (by decide)) (Int.emod_lt_of_pos _ (by decide)) fun top htop => ?_
      refine ⟨_, rfl, tl, _, rfl, l4.same e5, fun tv H6 e6 htv => ?_⟩
      refine ⟨_, rl_cons rp_str (rl_one htv), by simp, fun r H7 e7 hr7 => ?_⟩
      refine q r H7 top ts (k4.trans (Kp.of (e5.trans (e6.trans e7)))) (s4.same (e5.trans (e6.trans e7))) hr7 (hlaid.trees (by omega)) ?_
      rcases htop with h | h | h
      · exact .inl h
      · exact .inl h
      · exact .inr (.inl h)
end
end L2.Gs
set_option Elab.async false
set_option linter.all false
set_option maxRecDepth 100000
set_option maxHeartbeats 4000000
namespace L2.Gs
open PySem PySem.Spec PyProof.Rows
open _root_.G (Tre Plan Trees)
theorem piecesL_snoc (p : List Nat) (t : Tre) : ∀ (a : List Tre) (k : Nat), G.piecesL p k (a ++ [t]) = G.piecesL p k a ++ G.pieces (p ++ [k + a.length]) t
  | [], k => by simp [G.piecesL]
  | c :: a, k => by
    have h := piecesL_snoc p t a (k + 1)
    rw [List.cons_append, G.piecesL, G.piecesL, h, List.append_assoc, List.length_cons, show k + 1 + a.length = k + (a.length + 1) by omega]
theorem piecesL_take {p : List Nat} {ks : List Tre} {i : Nat} {c : Tre} (h : ks[i]? = some c) : G.piecesL p 0 (ks.take (i + 1)) = G.piecesL p 0 (ks.take i) ++ G.pieces (p ++ [i]) c := by
  have hi : i < ks.length := (List.getElem?_eq_some_iff.mp h).1
  have e : ks.take (i + 1) = ks.take i ++ [c] := by rw [List.take_succ, h]; rfl
  rw [e, piecesL_snoc, List.length_take, Nat.min_eq_left (by omega), Nat.zero_add]
theorem pieces_len (p : List Nat) (t : Tre) : (G.pieces p t).length = G.cnt t := by rw [G.pieces_eq, List.length_map]; rfl
theorem piecesL_len (p : List Nat) : ∀ (k : Nat) (ks : List Tre), (G.piecesL p k ks).length = (ks.map G.cnt).sum
  | _, [] => rfl
  | k, t :: r => by rw [G.piecesL, List.length_append, pieces_len, piecesL_len p (k + 1) r, List.map_cons, List.sum_cons]
theorem pieces_feet (t : Tre) : (G.pieces [] t).filterMap (fun x => G.footN x.2) = G.feet t := by
  rw [G.pieces_eq, List.filterMap_map]
  unfold G.feet G.subs
  rw [List.filterMap_map]
  rfl
theorem Ls.apps {H : Hp} {l : Addr} {ds es : List D} {vs ws : List V} (h : H l = some (.lst vs)) (r : RpL H ds vs) (r2 : RpL H es ws) : Ls (upd H l (.lst (vs ++ ws))) l (ds ++ es) := ⟨_, upd_same, (r.app r2).up (.upd (.lst h))⟩
section
variable {P : Program} {w : World} {K : PySem.W.Frag} {mg : Str → Option Value} {base : Heap} {f : Addr} {fd : FuncData}
/-! ### _law_pieces -/
def spPieces (n : Nat) : Sp := fun vs H Q _ => ∃ (tv pv : V) (t : Tre) (p : List Nat), vs = [tv, pv] ∧ Rp H (encT t) tv ∧ Rp H (encP p) pv ∧ G.depth t < n ∧ n ≤ 10 ∧ G.cnt t ≤ 500 ∧ p.length + n ≤ 100 ∧ ∀ l H', Same H H' → H l = none → Ls H' l ((G.pieces p t).map encPc) → Q (.ref l) H'
theorem scPieces : FnScope ["tree", "place", "found", "k"] ["tree", "place"] (defScope sPieces) := ⟨rfl, rfl, rfl, by decide +kernel, rfl, by decide +kernel, by decide +kernel⟩
theorem ok_pieces_step {n : Nat} (F : Fun K "_law_pieces" "_law_pieces" sPieces f fd) (CI : Cal P w K mg base "_law_pieces" (n + 1) ["tree", "place"] (spPieces n)) (B : Blt mg) : FnOk P w K mg base CX0 (n + 1 + 1) f fd ["tree", "place"] (spPieces (n + 1)) := by
  refine F.ok scPieces (fun vs H Q E h => ?_) (fun cdv A outer s H vs Q E hr h => ?_)
  · obtain ⟨tv, pv, t, p, rfl, _⟩ := h
    rfl
  obtain ⟨tv, plv, t, p, rfl, ht, hp, hd, hn, hc, hpl, q⟩ := h
  have nd := scPieces.nd
  refine ⟨_, pss_cons (ps_set (i := 2) nd rfl (Or.inl rfl) (pe_lstD (pa_cons (pe_tupD (pa_cons (pv 1) (pa_cons (pv 0) pa_nil))) pa_nil)))
    (pss_cons (ps_if (pt_cmpR op_eq (pe_ix ix_D (pv 0) pe_int (fun _ _ => rfl)) pe_str (nomark _))
      (pss_one (ps_for PassesOwn.never rfl (pi_range1 rfl B.range (pa_cons (pe_callB call_lenTD rfl B.len PySem.boot_len (pa_cons (pe_ix ix_D (pv 0) pe_int (fun _ _ => rfl)) pa_nil)) pa_nil)) (pg_name (i := 3) nd rfl (Or.inl rfl))
        (pss_one (ps_expr (pe_bm PySem.F.plainAttrs_list PySem.F.slot_list_extend PySem.F.type_list_extend mt_extend (pv 2) (pa_cons (pe_cal CI hr (pa_cons (pe_ix ix_D (pe_ix ix_D (pv 0) pe_int (fun _ _ => rfl)) (pv 3) (fun _ _ => rfl)) (pa_cons (pe_op op_catD (pv 1) (pe_tupD (pa_cons (pv 3) pa_nil))) pa_nil))) pa_nil)))))) pss_nil)
    (pss_one (ps_ret (pv 2)))), ?_⟩
  refine ⟨_, rfl, _, rfl, _, rl_cons hp (rl_one ht), by simp, fun pc H1 e1 hpc => ?_⟩
  refine ⟨_, rl_one hpc, by simp, fun l H2 e2 nl hl => ?_⟩
  have nl0 : H l = none := e1.free nl
  have e02 : Same H H2 := e1.trans e2
  obtain ⟨r, hr0⟩ := rp_tag (ht.up (.of e02))
  refine ⟨_, rfl, _, _, _, .inl hr0, rfl, at0, fun w1 hw1 => ?_⟩
  rw [un_str hw1]
  refine ⟨rfl, _, rfl, ?_⟩
  rw [strD]
  refine ite2 (fun c => ?_) (fun c => ?_)
  · obtain ⟨m, tk, ks, rfl⟩ := tag_knot c
    have henc : encT (.knot m tk ks) = .tup [.str "knot", .str m, encTk tk, .tup (ks.map encT)] := by rw [encT, encTs_map]
    rw [henc] at ht
    have lenE : (ks.map encT).length = ks.length := List.length_map _
    have t3 : ∀ {H' : Hp} {σ : St} {R : VK}, Same H H' → σ[0]? = some (some tv) → (∀ v, Rp H' (.tup (ks.map encT)) v → R v H') → tOp rIxD (tVar 0) (tC (.int 3)) σ H' R := by
      intro H' σ R s h0 hR
      exact ⟨tv, h0, _, _, _, .inl (ht.up (.of s)), rfl, atI_nat (j := 3) rfl, hR⟩
    have hkl : ks.length ≤ 500 := by have := kids_len (.knot m tk ks); have e : (G.kids (.knot m tk ks)) = ks := rfl; rw [e] at this; omega
    refine t3 e02 rfl fun w2 hw2 => ?_
    refine ⟨w2, _, rfl, .inl hw2, _, rfl, by omega, by rw [lenE]; omega, ?_⟩
    rw [lenE, Int.toNat_natCast]
    refine for_range (lo := 0) (n := ks.length) (fun i σ H' => ∃ o3, σ = [some tv, some plv, some (.ref l), o3] ∧ Same H H' ∧ Ls H' l (((p, Tre.knot m tk ks) :: G.piecesL p 0 (ks.take i)).map encPc))
      ⟨none, rfl, e02, by simpa [G.piecesL, encPc, encT, encTs_map] using hl⟩ ?_ ?_
    · rintro i σ H3 hi ⟨o3, rfl, s3, ⟨acc, hacc, hal⟩⟩
      have hki : ks[i]? = some ks[i] := List.getElem?_eq_getElem hi
      have hmem : ks[i] ∈ G.kids (.knot m tk ks) := List.getElem_mem hi
      refine ⟨_, rfl, .inl ⟨rfl, _, SqL.of hacc⟩, ?_⟩
      refine t3 s3 rfl fun w3 hw3 => ?_
      refine ⟨_, rfl, _, _, _, .inl hw3, rfl, at_ofG (j := i) (by omega) (by rw [List.getElem?_map, hki]; rfl), fun w4 hw4 => ?_⟩
      refine ⟨_, rfl, _, rfl, _, rl_one (by rw [Int.zero_add]; exact rp_int), by simp, fun w5 H4 e4 hw5 => ?_⟩
      refine ⟨_, _, hp.up (.of (s3.trans e4)), hw5, Nat.le_of_lt (small (by rw [List.length_map, List.length_singleton]; omega)), fun w6 H5 e5 hw6 => ?_⟩
      have hw6' : Rp H5 (encP (p ++ [i])) w6 := by
        unfold encP
        rw [List.map_append]
        exact hw6
      refine ⟨w4, w6, ks[i], p ++ [i], rfl, hw4.up (.of (e4.trans e5)), hw6', by have := G.depth_kid hmem; omega, by omega, by have := cnt_kid hmem; omega, by rw [List.length_append, List.length_singleton]; omega, fun l6 H6 s6 n6 hl6 => ?_⟩
      obtain ⟨zs, hzs, hzl⟩ := hl6
      have hacc6 := s6 _ _ (e5 _ _ (e4 _ _ hacc))
      have tm6 : TM H3 H6 := .of (e4.trans (e5.trans s6))
      have h1 := sum_take_le ks (i + 1)
      have h2 := cnt_kids (.knot m tk ks)
      have h2' : G.kids (.knot m tk ks) = ks := rfl
      rw [h2'] at h2
      have h3 : ((ks.take (i + 1)).map G.cnt).sum = ((ks.take i).map G.cnt).sum + G.cnt ks[i] := by
        rw [List.take_succ, hki, List.map_append, List.sum_append]; simp
      refine ⟨l, l6, acc, zs, rfl, rfl, hacc6, hzs, Nat.le_of_lt (small ?_), ?_⟩
      · rw [hal.len, hzl.len, List.length_map, List.length_map, List.length_cons, piecesL_len, pieces_len]
        omega
      · refine ⟨_, rfl, sUpd (s3.trans (e4.trans (e5.trans s6))) nl0, ?_⟩
        rw [piecesL_take hki]
        have h := Ls.apps hacc6 (hal.up tm6) hzl
        simpa using h
    · rintro σ H3 ⟨o3, rfl, s3, l3⟩
      rw [List.take_length] at l3
      refine ⟨_, rfl, q l H3 s3 nl0 ?_⟩
      rw [G.pieces]
      exact l3
  · refine ⟨_, rfl, q l H2 e02 nl0 ?_⟩
    have e : G.pieces p t = [(p, t)] := by
      cases t with
      | knot m tk ks => exact absurd (by show decide (("knot" : Str) = "knot") = true; decide +kernel) c
      | _ => simp [G.pieces]
    rw [e]
    exact hl
theorem ok_pieces (S : Std K mg "_law_pieces" sPieces ["tree", "place"] f fd) (B : Blt mg) : ∀ n, Cal P w K mg base "_law_pieces" (n + 1) ["tree", "place"] (spPieces n)
  | 0 => S.cal (fn_never fun vs H Q E h => by
      obtain ⟨tv, pv, t, p, _, _, _, hd, _⟩ := h
      omega)
  | n + 1 => S.cal (ok_pieces_step S.fn (ok_pieces S B n) B)

/-! ### _law_called -/
def encC (x : Bool × Str) : D := .tup [.bl x.1, .str x.2]
def spCalled : Sp := fun vs H Q _ => ∃ (v : V) (t : Tre), vs = [v] ∧ Rp H (encT t) v ∧ (∃ m tk ks, t = .knot m tk ks) ∧ G.depth t ≤ 5 ∧ G.cnt t ≤ 500 ∧ ∀ r H', Same H H' → Rp H' (encC (G.called t)) r → Q r H'
abbrev nCalled : List Str := ["tree", "feet", "place", "piece"]
theorem scCalled : FnScope nCalled ["tree"] (defScope sCalled) := ⟨rfl, rfl, rfl, by decide +kernel, rfl, by decide +kernel, by decide +kernel⟩
theorem ok_called (F : Fun K "_law_called" "_law_called" sCalled f fd) (CP : Cal P w K mg base "_law_pieces" 7 ["tree", "place"] (spPieces 6)) (B : Blt mg) : FnOk P w K mg base CX0 8 f fd ["tree"] spCalled := by
  refine F.ok scCalled (fun vs H Q E h => ?_) (fun cdv A outer s H vs Q E hr h => ?_)
  · obtain ⟨v, t, rfl, _⟩ := h
    rfl
  obtain ⟨v, t, rfl, hv, ⟨m, tk, ks, rfl⟩, hd, hc, q⟩ := h
  have nd := scCalled.nd
  refine ⟨_, pss_cons (ps_setLc (i := 1) (own := [("place", 2), ("piece", 3)]) (g := gTup K 2 (gCons (gName 2) (gCons (gName 3) gNil))) rfl nd rfl rfl (sw_true rfl rfl rfl (by decide +kernel)) (pi_list (pe_cal CP hr (pa_cons (pv 0) (pa_cons (pe_tupD pa_nil) pa_nil))))
      (blkOk_by (own := [("place", 2), ("piece", 3)]) (N := nCalled) (sc := defScope sCalled) (by decide +kernel)) (fun _ _ _ _ _ => pg_tup rfl (pgs_cons (pg_name (i := 2) nd rfl (Or.inl rfl)) (pgs_cons (pg_name (i := 3) nd rfl (Or.inl rfl)) pgs_nil)))
      (fun _ _ _ _ _ => pts_one (pt_cmpR op_eq (pe_ix ix_D (pv 3) pe_int (fun _ _ => rfl)) pe_str (nomark _))) (fun _ _ _ _ _ => pe_ix ix_D (pv 3) pe_int (fun _ _ => rfl)))
    (pss_one (ps_ret (pe_ifExp (pt_cmpR op_gt (pe_callB call_lenLD rfl B.len PySem.boot_len (pa_cons (pv 1) pa_nil)) pe_int (nomark _)) (pe_tupD (pa_cons pe_bl (pa_cons (pe_ix ix_LD (pv 1) pe_int (fun _ _ => rfl)) pa_nil))) (pe_tupD (pa_cons pe_bl (pa_cons (pe_ix ix_D (pv 0) pe_int (fun _ _ => rfl)) pa_nil)))))), ?_⟩
  refine ⟨_, rfl, _, rl_nil, by simp, fun pv0 H0 e0 hp0 => ?_⟩
  refine ⟨v, pv0, _, [], rfl, hv.up (.of e0), hp0, by omega, by omega, by omega, by simp, fun l1 H1 s1 n1 hl1 => ?_⟩
  have s01 := e0.trans s1
  obtain ⟨ps, hps, hpl⟩ := hl1
  have hplen : ps.length = (G.pieces [] (.knot m tk ks)).length := by rw [hpl.len, List.length_map]
  have hplc := pieces_len [] (.knot m tk ks)
  refine ⟨l1, rfl, ⟨_, SqL.of hps⟩, fun d2 hd2 => ?_⟩
  have hd20 : H d2 = none := s01.free hd2
  refine lc_list (K := K) (a := l1) (xs := ps) (fun i H' => Same H1 H' ∧ Ls H' d2 ((((G.pieces [] (.knot m tk ks)).take i).filterMap fun x => G.footN x.2).map D.str)) ⟨sNew hd2, [], upd_same, rl_nil⟩ (fun i H' _ ⟨s', _⟩ => SqL.of (s' _ _ hps)) ?_ ?_
  · rintro i x H3 hx ⟨s3, l3⟩
    obtain ⟨d, he, hxd⟩ := hpl.get hx
    rw [List.getElem?_map] at he
    obtain ⟨⟨pq, c⟩, hc1, rfl⟩ := Option.map_eq_some_iff.mp he
    have hxd3 : Rp H3 (.tup [encP pq, encT c]) x := hxd.up (.of s3)
    obtain ⟨pa, y1, y2, rfl, hpa, hy1, hy2⟩ := un_tup2 hxd3
    refine ⟨pa, _, rfl, SqT.of hpa, rfl, _, _, rfl, _, _, rfl, rfl, ?_⟩
    obtain ⟨r, hr0⟩ := rp_tag hy2
    refine ⟨rfl, ?_⟩
    refine ⟨_, rfl, _, _, _, .inl hr0, rfl, at0, fun w1 hw1 => ?_⟩
    rw [un_str hw1]
    refine ⟨rfl, _, rfl, ?_⟩
    rw [strD]
    rw [filterMap_take_succ _ hc1]
    refine ite2 (fun cc => ?_) (fun cc => ?_)
    · obtain ⟨nm, rfl⟩ := tag_foot cc
      rw [encT] at hy2
      obtain ⟨acc, hacc, hal⟩ := l3
      have al : acc.length ≤ 500 := by
        have := filterMap_len (fun x : List Nat × Tre => G.footN x.2) (G.pieces [] (.knot m tk ks)) i
        rw [hal.len, List.length_map]; omega
      refine ⟨_, rfl, _, _, _, .inl hy2, rfl, atI_nat (j := 1) rfl, fun w2 hw2 => ?_⟩
      refine ⟨acc, hacc, small (by omega), sUpd s3 hd2, ?_⟩
      rw [List.map_append]
      exact Ls.push hacc hal hw2
    · refine ⟨s3, ?_⟩
      have e : G.footN c = none := by
        cases c with
        | foot m => exact absurd (by show decide (("foot" : Str) = "foot") = true; decide +kernel) cc
        | _ => rfl
      rw [show G.footN ((pq, c) : List Nat × Tre).snd = none from e]
      simpa using l3
  · rintro H3 ⟨s3, l3⟩
    rw [hplen, List.take_length, pieces_feet] at l3
    have s03 := s01.trans s3
    refine ⟨_, rfl, d2, _, rfl, l3, _, _, rfl, rfl, _, rfl, ?_⟩
    rw [List.length_map]
    refine ite2 (fun c => ?_) (fun c => ?_)
    · have c' := of_decide_eq_true c
      match hf : G.feet (.knot m tk ks) with
      | [] => rw [hf] at c'; exact absurd c' (by decide)
      | a :: r =>
        rw [hf] at l3
        refine ⟨_, rfl, d2, _, _, _, rfl, l3, rfl, at0, fun w1 hw1 => ?_⟩
        refine ⟨_, rl_cons rp_bl (rl_one hw1), by simp, fun r' H4 e4 hr4 => ?_⟩
        refine q r' H4 (s03.trans e4) ?_
        have e : G.called (.knot m tk ks) = (true, a) := by unfold G.called; rw [hf]
        rw [e]
        exact hr4
    · have c' := of_decide_eq_false (Bool.eq_false_iff.mpr c)
      have hf : G.feet (.knot m tk ks) = [] := by
        cases e : G.feet (.knot m tk ks) with
        | nil => rfl
        | cons a r => rw [e, List.length_cons] at c'; omega
      have hv3 := hv.up (.of s03)
      rw [encT] at hv3
      refine ⟨_, rfl, _, _, _, .inl hv3, rfl, atI_nat (j := 1) rfl, fun w1 hw1 => ?_⟩
      refine ⟨_, rl_cons rp_bl (rl_one hw1), by simp, fun r' H4 e4 hr4 => ?_⟩
      refine q r' H4 (s03.trans e4) ?_
      have e : G.called (.knot m tk ks) = (false, m) := by unfold G.called; rw [hf]; rfl
      rw [e]
      exact hr4

/-! ### _law_takers -/
theorem nz_ok {n : Str} (h : G.Nz n) : PyData.strOk n = true := by
  rcases h with (rfl | rfl | rfl) | rfl <;> decide +kernel
theorem shaped_C {x : Bool × Str} (h : G.Nz x.2) : SeqAt.shaped (toPy (encC x)) = true := by
  have e := nz_ok h
  unfold encC SeqAt.shaped
  simp only [toPy, toPys, PyData.canLay0, PyData.canLayAll0, PyData.depth, PyData.depthAll, e]
  decide
theorem eqv_C (x y : Bool × Str) : PyData.eqv (toPy (encC x)) (toPy (encC y)) = decide (x = y) := by
  obtain ⟨a, b⟩ := x
  obtain ⟨c, d⟩ := y
  unfold encC
  simp only [toPy, toPys, PyData.eqv, PyData.eqvAll]
  by_cases h1 : a = c
  · by_cases h2 : b = d
    · subst h1; subst h2; simp
    · rw [decide_eq_false fun z => h2 (Prod.mk.inj z).2, beq_eq_false_iff_ne.mpr h2]; simp
  · rw [decide_eq_false fun z => h1 (Prod.mk.inj z).1, beq_eq_false_iff_ne.mpr h1]; simp
def spLTakers : Sp := fun vs H Q _ => ∃ (bv v : V) (top : Str) (ts : Trees) (t : Tre), vs = [bv, v] ∧ Rp H (encB top ts) bv ∧ G.TreesOk ts ∧ Rp H (encT t) v ∧ G.MustNm t ∧ ∀ l H', Same H H' → H l = none → Ls H' l ((G.takers ts t).map D.str) → Q (.ref l) H'
abbrev nLTakers : List Str := ["book", "piece", "key", "tree"]
theorem scLTakers : FnScope nLTakers ["book", "piece"] (defScope sLTakers) := ⟨rfl, rfl, rfl, by decide +kernel, rfl, by decide +kernel, by decide +kernel⟩
abbrev ttCalled (K : PySem.W.Frag) (g : Bool) (tX : TE) : TT := tTest (tOp (rEqD K) (tCall spCalled [] E0 (tCons (tVar 3) tNil)) (tTupD (tCons (tC (.bl g)) (tCons tX tNil))))
theorem ok_ltakers (F : Fun K "_law_takers" "_law_takers" sLTakers f fd) (CC : Cal P w K mg base "_law_called" 8 ["tree"] spCalled) : FnOk P w K mg base CX0 9 f fd ["book", "piece"] spLTakers := by
  refine F.ok scLTakers (fun vs H Q E h => ?_) (fun cdv A outer s H vs Q E hr h => ?_)
  · obtain ⟨bv, v, top, ts, t, rfl, _⟩ := h
    rfl
  obtain ⟨bv, v, top, ts, t, rfl, hb, ok, hv, hmn, q⟩ := h
  have nd := scLTakers.nd
  have hu := hr.units
  refine ⟨_, pss_cons (ps_if (pt_cmpR op_eq (pe_ix ix_D (pv 1) pe_int (fun _ _ => rfl)) pe_str (nomark _))
      (pss_one (ps_ret (pe_lc (own := [("key", 2), ("tree", 3)]) (g := gTup K 2 (gCons (gName 2) (gCons (gName 3) gNil))) (tt := ttCalled K false (tOp rIxD (tVar 1) (tC (.int 1)))) rfl nd (pi_tup (pe_ix ix_D (pv 0) pe_int (fun _ _ => rfl))) (blkOk_by (own := [("key", 2), ("tree", 3)]) (N := nLTakers) (sc := defScope sLTakers) (by decide +kernel))
        (fun _ _ _ _ _ => pg_tup rfl (pgs_cons (pg_name (i := 2) nd rfl (Or.inl rfl)) (pgs_cons (pg_name (i := 3) nd rfl (Or.inl rfl)) pgs_nil)))
        (fun _ _ _ _ _ => pts_one (pt_cmpR (op_eqD hu) (pe_cal CC hr (pa_cons (pv 3) pa_nil)) (pe_tupD (pa_cons pe_bl (pa_cons (pe_ix ix_D (pv 1) pe_int (fun _ _ => rfl)) pa_nil))) (nomark _))) (fun _ _ _ _ _ => pv 2)))) pss_nil)
    (pss_cons (ps_if (PW.pt (pw_and (pt_cmpR op_eq (pe_ix ix_D (pv 1) pe_int (fun _ _ => rfl)) pe_str (nomark _)) (pw_and1 (pt_cmpR op_notN (pe_ix ix_D (pv 1) pe_int (fun _ _ => rfl)) pe_non (nomark _)))))
      (pss_one (ps_ret (pe_lc (own := [("key", 2), ("tree", 3)]) (g := gTup K 2 (gCons (gName 2) (gCons (gName 3) gNil))) (tt := ttCalled K true (tOp rIxD (tOp rIxD (tVar 1) (tC (.int 2))) (tC (.int 0)))) rfl nd (pi_tup (pe_ix ix_D (pv 0) pe_int (fun _ _ => rfl))) (blkOk_by (own := [("key", 2), ("tree", 3)]) (N := nLTakers) (sc := defScope sLTakers) (by decide +kernel))
        (fun _ _ _ _ _ => pg_tup rfl (pgs_cons (pg_name (i := 2) nd rfl (Or.inl rfl)) (pgs_cons (pg_name (i := 3) nd rfl (Or.inl rfl)) pgs_nil)))
        (fun _ _ _ _ _ => pts_one (pt_cmpR (op_eqD hu) (pe_cal CC hr (pa_cons (pv 3) pa_nil)) (pe_tupD (pa_cons pe_bl (pa_cons (pe_ix ix_D (pe_ix ix_D (pv 1) pe_int (fun _ _ => rfl)) pe_int (fun _ _ => rfl)) pa_nil))) (nomark _))) (fun _ _ _ _ _ => pv 2)))) pss_nil)
    (pss_one (ps_ret (pe_lstD pa_nil)))), ?_⟩
  -- the comprehension, once
  have comp : ∀ {g : Bool} {n : Str} {b : Bool} {tX : TE}, G.want t = some (g, n, b) → (∀ (σ : St) (H' : Hp) (R : VK), Same H H' → σ[1]? = some (some v) → (∀ u, Rp H' (.str n) u → R u H') → tX σ H' R) →
      tLc (iTup K (tOp rIxD (tVar 0) (tC (.int 1)))) (gTup K 2 (gCons (gName 2) (gCons (gName 3) gNil))) (ttCalled K g tX) (tVar 2) [2, 3] [some bv, some v, none, none] H Q := by
    intro g n b tX hwant hX
    refine ⟨_, rfl, _, _, _, .inl hb, rfl, atI_nat (j := 1) rfl, fun tv htv => ?_⟩
    obtain ⟨a, xs, o, rfl, ha, _, hl⟩ := un_ftup htv
    have hlen : xs.length = ts.length := by rw [hl.len, List.length_map]
    refine ⟨a, rfl, ⟨_, SqT.fz ha⟩, fun D0 hD0 => ?_⟩
    have h11 := ok.len
    refine lc_tup (K := K) (a := a) (xs := xs) (fun i H' => Same H H' ∧ Ls H' D0 ((((ts.take i).filter fun kt => decide (G.called kt.2 = (g, n))).map (·.1)).map D.str)) ⟨sNew hD0, [], upd_same, rl_nil⟩ (fun i H' _ ⟨s', _⟩ => SqT.fz (s' _ _ ha)) ?_ ?_
    · rintro i x H2 hx ⟨s2, l2⟩
      obtain ⟨d, hd, hxd⟩ := hl.get hx
      rw [List.getElem?_map] at hd
      obtain ⟨⟨k1, t1⟩, hk1, rfl⟩ := Option.map_eq_some_iff.mp hd
      have tok := ok.ok k1 t1 (List.mem_of_getElem? hk1)
      have hxd2 := hxd.up (.of s2)
      obtain ⟨p, x1, x2, rfl, hp, h1, h2⟩ := un_tup2 hxd2
      rw [un_str h1] at hp
      refine ⟨p, _, rfl, SqT.of hp, rfl, _, _, rfl, _, _, rfl, rfl, ?_⟩
      refine ⟨rfl, ?_⟩
      rw [filter_take_succ _ hk1]
      have hcn := tok.cn
      refine ⟨_, rfl, x2, t1, rfl, h2, tok.kn, tok.dep, by omega, fun cv H3 s3 hcv => ?_⟩
      refine hX _ _ _ (s2.trans s3) rfl fun u hu => ?_
      refine ⟨_, rl_cons rp_bl (rl_one hu), by simp, fun pv' H4 s4 hpv => ?_⟩
      have hpv' : Rp H4 (encC (g, n)) pv' := hpv
      refine ⟨_, _, Rp.dp _ _ (hcv.up (.of s4)), Rp.dp _ _ hpv', shaped_C (.inl (G.called_nm tok)), shaped_C (hmn g n b hwant).1, _, rfl, ?_⟩
      rw [eqv_C]
      obtain ⟨acc, hacc, hal⟩ := (l2.same s3).same s4
      have al : acc.length ≤ 1000 := by
        have := filter_len (fun kt : Str × Tre => decide (G.called kt.2 = (g, n))) ts i
        rw [hal.len, List.length_map, List.length_map]; omega
      refine ite2 (fun c2 => ?_) (fun c2 => ?_)
      · refine ⟨_, rfl, acc, hacc, small (by omega), sUpd ((s2.trans s3).trans s4) hD0, ?_⟩
        rw [if_pos c2, List.map_append, List.map_append]
        exact Ls.push hacc hal rp_str
      · refine ⟨(s2.trans s3).trans s4, ?_⟩
        rw [if_neg c2, List.append_nil]
        exact ⟨acc, hacc, hal⟩
    · rintro H2 ⟨s2, l2⟩
      rw [hlen, List.take_length] at l2
      refine q _ _ s2 hD0 ?_
      have e : G.takers ts t = (ts.filter fun kt => decide (G.called kt.2 = (g, n))).map (·.1) := by unfold G.takers G.takersBy; rw [hwant]
      rw [e]
      exact l2
  obtain ⟨r, hr0⟩ := rp_tag hv
  refine ⟨_, rfl, _, _, _, .inl hr0, rfl, at0, fun w1 hw1 => ?_⟩
  rw [un_str hw1]
  refine ⟨rfl, _, rfl, ?_⟩
  rw [strD]
  refine ite2 (fun c => ?_) (fun c => ?_)
  · obtain ⟨n, rfl⟩ := tag_hole c
    rw [encT] at hv
    exact comp (g := false) (n := n) (b := true) rfl fun σ H' R s' h1 hR => ⟨v, h1, _, _, _, .inl (hv.up (.of s')), rfl, atI_nat (j := 1) rfl, hR⟩
  · refine ⟨_, rfl, _, _, _, .inl hr0, rfl, at0, fun w2 hw2 => ?_⟩
    rw [un_str hw2]
    refine ⟨rfl, _, rfl, ?_⟩
    rw [strD]
    refine ite2 (fun c2 => ?_) (fun c2 => ?_)
    · obtain ⟨n, tk, ks, rfl⟩ := tag_knot c2
      rw [encT] at hv
      refine ⟨_, rfl, _, _, _, .inl hv, rfl, atI_nat (j := 2) rfl, fun w3 hw3 => ?_⟩
      refine ⟨rfl, _, rfl, ?_⟩
      cases tk with
      | none =>
        rw [un_non hw3]
        refine iteF' rfl ?_
        refine ⟨[], rl_nil, by simp, fun l H2 s2 n2 l2 => ?_⟩
        refine q l H2 s2 n2 ?_
        rw [G.takers_none rfl]
        exact l2
      | some mb =>
        obtain ⟨m, b⟩ := mb
        obtain ⟨p3, vs3, rfl, _, _⟩ := un_tup hw3
        refine iteT' rfl ?_
        exact comp (g := true) (n := m) (b := b) rfl fun σ H' R s' h1 hR => ⟨v, h1, _, _, _, .inl (hv.up (.of s')), rfl, atI_nat (j := 2) rfl, fun w4 hw4 => ⟨_, _, _, .inl hw4, rfl, atI_nat (j := 0) rfl, hR⟩⟩
    · refine iteF' rfl ?_
      refine ⟨[], rl_nil, by simp, fun l H2 s2 n2 l2 => ?_⟩
      refine q l H2 s2 n2 ?_
      rw [G.takers_none (want_none c c2)]
      exact l2
end
end L2.Gs
set_option Elab.async false
set_option linter.all false
set_option maxRecDepth 100000
set_option maxHeartbeats 4000000
namespace L2.Gs
open PySem PySem.Spec PyProof.Rows
open _root_.G (Tre Plan Trees)
/-! ### a word between a part and what follows -/
def tCutT (t : TT) : TT := fun σ H Q => ∃ P : Bool → Hp → Prop, (∀ R : Bool → Hp → Prop, (∀ b H1, P b H1 → R b H1) → t σ H R) ∧ ∀ b H1, P b H1 → Q b H1
theorem pt_cutT {X : Cx} {e : Expr} {t : TT} (h : PT X e t) : PT X e (tCutT t) := ⟨fun pins s σ H Q I ⟨_, a, b⟩ => h.run pins s σ H Q I (a Q b)⟩
def tCutE (t : TE) : TE := fun σ H Q => ∃ P : VK, (∀ R : VK, (∀ v H1, P v H1 → R v H1) → t σ H R) ∧ ∀ v H1, P v H1 → Q v H1
theorem pe_cutE {X : Cx} {e : Expr} {t : TE} (h : PE X e t) : PE X e (tCutE t) := ⟨fun pins s σ H Q I ⟨_, a, b⟩ => h.run pins s σ H Q I (a Q b)⟩

/-! ### dict(book[1]) -/
theorem mergeK_val (k : Key) : ∀ (more acc : List (Key × V)), valV (mergeK acc more) k = more.foldl (fun o kv => if kv.1 = k then some kv.2 else o) (valV acc k)
  | [], _ => rfl
  | p :: r, acc => by
    show valV (mergeK (putK acc p.1 p.2) r) k = _
    rw [mergeK_val k r, valV_put, List.foldl_cons]
    congr 1
    by_cases e : p.1 = k
    · rw [if_pos e.symm, if_pos e]
    · rw [if_neg fun z => e z.symm, if_neg e]
abbrev KB (H : Hp) : Trees → List (Key × V) → Prop := Paired fun x kv => kv.1 = Sum.inr x.1 ∧ Rp H (encT x.2) kv.2
theorem KB.of {K : PySem.W.Frag} {H : Hp} : ∀ {ts : Trees} {vs : List V}, RpL H (ts.map encKT) vs → ∃ (as : List Addr) (kvs : List (Key × V)), vs = as.map V.ref ∧ KB H ts kvs ∧ Paired (fun p kv => SqT K H p [kV kv.1, kv.2]) as kvs
  | [], vs, h => by rw [ul_nil h]; exact ⟨[], [], rfl, .nil, .nil⟩
  | x :: ts, vs, h => by
    obtain ⟨v, r, rfl, h1, h2⟩ := ul_cons h
    obtain ⟨as, kvs, rfl, k1, k2⟩ := KB.of (K := K) h2
    obtain ⟨p, y1, y2, rfl, hp, hy1, hy2⟩ := un_tup2 h1
    rw [un_str hy1] at hp
    exact ⟨p :: as, (Sum.inr x.1, y2) :: kvs, rfl, .cons ⟨rfl, hy2⟩ k1, .cons (SqT.of hp) k2⟩
theorem KB.fold {H : Hp} {key : Str} : ∀ {ts : Trees} {kvs : List (Key × V)} {o : Option Tre} {u : Option V}, KB H ts kvs → (match o, u with | none, none => True | some t, some v => Rp H (encT t) v | _, _ => False) →
    (match ts.foldl (fun o kt => if kt.1 = key then some kt.2 else o) o, kvs.foldl (fun o kv => if kv.1 = Sum.inr key then some kv.2 else o) u with | none, none => True | some t, some v => Rp H (encT t) v | _, _ => False)
  | _, _, o, u, .nil, h => h
  | _, _, o, u, .cons (a := x) (b := kv) h t, ho => by
    rw [List.foldl_cons, List.foldl_cons]
    refine KB.fold t ?_
    by_cases e : x.1 = key
    · rw [if_pos e, if_pos (by rw [h.1, e])]
      exact h.2
    · rw [if_neg e, if_neg (fun z => e (Sum.inr.inj (h.1.symm.trans z)))]
      exact ho
/-- the dict's tree of a key -/
theorem KB.look {H : Hp} {ts : Trees} {kvs : List (Key × V)} {key : Str} {t : Tre} (h : KB H ts kvs) (ht : G.treeOf ts key = some t) : ∃ v, valV (mergeK [] kvs) (Sum.inr key) = some v ∧ Rp H (encT t) v := by
  have f := h.fold (key := key) (o := none) (u := none) trivial
  have e : ts.foldl (fun o kt => if kt.1 = key then some kt.2 else o) none = some t := ht
  rw [e] at f
  rw [mergeK_val, valV_nil]
  generalize kvs.foldl (fun o kv => if kv.1 = Sum.inr key then some kv.2 else o) none = u at f ⊢
  cases u with
  | none => exact f.elim
  | some v => exact ⟨v, rfl, f⟩
def mustB (t : Tre) : Bool := match G.want t with
  | some (_, _, b) => b
  | none => false
theorem based_sub {ks : List Str} {k : Str} (h : k ∈ G.based ks) : k ∈ ks ∧ k ∈ G.baseKeys := ⟨(List.mem_filter.mp h).1, of_decide_eq_true (List.mem_filter.mp h).2⟩
theorem pieces_at {t : Tre} {i : Nat} {q : List Nat} {c : Tre} (h : (G.pieces [] t)[i]? = some (q, c)) : (G.places t)[i]? = some q ∧ c = G.get t q := by
  rw [G.pieces_eq, List.getElem?_map] at h
  obtain ⟨q', h1, h2⟩ := Option.map_eq_some_iff.mp h
  cases h2
  exact ⟨h1, rfl⟩
section
variable {P : Program} {w : World} {K : PySem.W.Frag} {mg : Str → Option Value} {base : Heap} {f : Addr} {fd : FuncData}
/-! ### _law_plan -/
def spPlan (K : PySem.W.Frag) (n : Nat) : Sp := fun vs H Q _ => ∃ (st sc : Addr) (ns : List Int) (bv : V) (top : Str) (ts : Trees) (key : Str) (l : Nat), vs = [.ref st, bv, .str key, .int (l : Nat)] ∧ StOk K sc ns H st ∧ Rp H (encB top ts) bv ∧ G.TreesOk ts ∧ (∃ t, (key, t) ∈ ts) ∧
  ((key ∈ G.baseKeys ∧ 1 ≤ n) ∨ l + 2 ≤ n) ∧ n ≤ 10 ∧ ∀ r H' pl, Kp st H H' → StD sc H' st → Rp H' (encPl pl) r → G.PlanOk ts n pl → pl.key = key → Q r H'
abbrev nPlan : List Str := ["state", "book", "key", "left", "cell", "puts", "place", "piece", "some", "must", "one"]
theorem scPlan : FnScope nPlan ["state", "book", "key", "left"] (defScope sPlan) := ⟨rfl, rfl, rfl, by decide +kernel, rfl, by decide +kernel, by decide +kernel⟩
abbrev ttBase (K : PySem.W.Frag) : TT := tTest (tOp (rIn K false) (tVar 10) (tTupD (tCons (tC (.str "s")) (tCons (tC (.str "x0")) (tCons (tC (.str "keytree")) (tCons (tC (.str "g")) (tCons (tC (.str "h1")) (tCons (tC (.str "graftofaone")) tNil))))))))
theorem ok_plan_step {m : Nat} (F : Fun K "_law_plan" "_law_plan" sPlan f fd) (CC : Cal P w K mg base "_law_cell" 1 ["state"] (spCell (K := K))) (CP : Cal P w K mg base "_law_pieces" 7 ["tree", "place"] (spPieces 6)) (CT : Cal P w K mg base "_law_takers" 9 ["book", "piece"] spLTakers)
    (CI : Cal P w K mg base "_law_plan" (m + 9) ["state", "book", "key", "left"] (spPlan K m)) (B : Blt mg) : FnOk P w K mg base CX0 (m + 1 + 9) f fd ["state", "book", "key", "left"] (spPlan K (m + 1)) := by
  refine F.ok (k := m + 9) scPlan (fun vs H Q E h => ?_) (fun cdv A outer s H vs Q E hr h => ?_)
  · obtain ⟨st, sc, ns, bv, top, ts, key, l, rfl, _⟩ := h
    rfl
  obtain ⟨st, sc, ns, bv, top, ts, key, l, rfl, hok, hb, ok, ⟨t0, ht0⟩, hcase, hm10, q⟩ := h
  have nd := scPlan.nd
  have hu := hu_of hr
  have hr1 : Room 1 _ := hr.mono (by omega)
  have hr7 : Room 7 _ := hr.mono (by omega)
  have hr9 : Room 9 _ := hr.mono (by omega)
  refine ⟨_, pss_cons (ps_set (i := 4) nd rfl (Or.inl rfl) (pe_cal CC hr1 (pa_cons (pv 0) pa_nil)))
    (pss_cons (ps_dput hu (pv 0) pe_str (pe_op op_add (pe_dget hu (pv 0) pe_str (fun _ _ => rfl)) pe_int) rfl)
    (pss_cons (ps_set (i := 3) nd rfl (Or.inl rfl) (pe_cutE (pe_ifExp (pt_cmpR op_lt (pe_dget hu (pv 0) pe_str (fun _ _ => rfl)) pe_int (nomark _)) (pv 3) pe_int)))
    (pss_cons (ps_set (i := 5) nd rfl (Or.inl rfl) (pe_lst pa_nil))
    (pss_cons (ps_for PassesOwn.never rfl (pi_list (pe_cal CP hr7 (pa_cons (pe_dget hu (pe_callTy (call_dictF rfl) rfl B.dict (by decide +kernel) (pa_cons (pe_ix ix_D (pv 1) pe_int (fun _ _ => rfl)) pa_nil)) (pv 2) (fun _ _ => rfl)) (pa_cons (pe_tupD pa_nil) pa_nil))))
        (pg_tup rfl (pgs_cons (pg_name (i := 6) nd rfl (Or.inl rfl)) (pgs_cons (pg_name (i := 7) nd rfl (Or.inl rfl)) pgs_nil)))
      (pss_cons (ps_set (i := 8) nd rfl (Or.inl rfl) (pe_cal CT hr9 (pa_cons (pv 1) (pa_cons (pv 7) pa_nil))))
      (pss_cons (ps_set (i := 9) nd rfl (Or.inl rfl) (pe_cutE (pe_or (pe_cmpR op_eq (pe_ix ix_D (pv 7) pe_int (fun _ _ => rfl)) pe_str (nomark _)) (pe_one (pe_and (pe_cmpR op_eq (pe_ix ix_D (pv 7) pe_int (fun _ _ => rfl)) pe_str (nomark _))
          (pe_and (pe_cmpR op_notN (pe_ix ix_D (pv 7) pe_int (fun _ _ => rfl)) pe_non (nomark _)) (pe_one (pe_ix ix_D (pe_ix ix_D (pv 7) pe_int (fun _ _ => rfl)) pe_int (fun _ _ => rfl)))))))))
      (C8.pss_cut (ps_if (pt_cutT (PW.pt (pw_or (pt_cmpR op_eq (pv 3) pe_int (nomark _)) (pw_or (pt_cmpR op_eq (pe_op op_mod (pv 4) pe_int) pe_int (nomark _)) (pw_or1 (pt_cmpR op_gt (pe_dget hu (pv 0) pe_str (fun _ _ => rfl)) pe_int (nomark _)))))))
        (pss_one (ps_setLc (i := 8) (own := [("one", 10)]) (g := gName 10) (tt := ttBase K) rfl nd rfl rfl (sw_true rfl rfl rfl (by decide +kernel)) (pi_list (pv 8)) (blkOk_by (own := [("one", 10)]) (N := nPlan) (sc := defScope sPlan) (by decide +kernel)) (fun _ _ _ _ _ => pg_name (i := 10) nd rfl (Or.inl rfl))
          (fun _ _ _ _ _ => pts_one (pt_cmpR op_in_seq (pv 10) (pe_tupD (pa_cons pe_str (pa_cons pe_str (pa_cons pe_str (pa_cons pe_str (pa_cons pe_str (pa_cons pe_str pa_nil))))))) (by rfl))) (fun _ _ _ _ _ => pv 10))) pss_nil)
      (pss_one (ps_if (pt_cutT (PW.pt (pw_or (pt_val (pv 9)) (pw_or1 (PW.pt (pw_and (pt_cmpR op_gt (pe_callB call_lenLD rfl B.len PySem.boot_len (pa_cons (pv 8) pa_nil)) pe_int (nomark _)) (pw_and (pt_cmpR op_gt (pv 3) pe_int (nomark _)) (pw_and1 (pt_cmpR op_gt (pe_op op_mod (pe_op op_fdiv (pv 4) pe_int) pe_int) pe_int (nomark _))))))))))
        (pss_cons (ps_expr (pe_bm PySem.F.plainAttrs_list PySem.F.slot_list_append PySem.F.type_list_append mt_append (pv 5) (pa_cons (pe_tupD (pa_cons (pv 6) (pa_cons (pe_cal CI hr (pa_cons (pv 0) (pa_cons (pv 1) (pa_cons (pe_ix ix_LD (pv 8) (pe_op op_mod (pe_op op_fdiv (pv 4) pe_int) (pe_callB call_lenLD rfl B.len PySem.boot_len (pa_cons (pv 8) pa_nil))) (fun _ _ => rfl))
            (pa_cons (pe_callB (call_max2 rfl) rfl B.max (by decide +kernel) (pa_cons pe_int (pa_cons (pe_op op_sub (pv 3) pe_int) pa_nil))) pa_nil))))) pa_nil))) pa_nil)))
        (pss_one (ps_set (i := 4) nd rfl (Or.inl rfl) (pe_op op_add (pe_op op_fdiv (pv 4) pe_int) pe_int)))) pss_nil))))))
    (pss_one (ps_ret (pe_tupD (pa_cons (pv 2) (pa_cons (pe_callTy call_tupFD rfl B.tup (by decide +kernel) (pa_cons (pv 5) pa_nil)) pa_nil))))))))), ?_⟩
  obtain ⟨t, hto⟩ := G.treeOf_some ht0
  have tok := ok.ok _ _ (G.treeOf_mem hto)
  have hcn := tok.cn
  -- cell; state['keys']
  refine ⟨_, rfl, st, sc, ns, rfl, hok, fun c0 H1 k1 s1 => ?_⟩
  obtain ⟨ia, ka, hd1, hia⟩ := id s1
  refine ⟨_, rfl, st, .int ka, rfl, by rw [← st_keys sc ia ka]; exact DGet.k (k := Sum.inr "keys") hd1, _, _, rfl, rfl, ?_⟩
  refine ⟨_, rfl, st, _, rfl, DPut.k (k := Sum.inr "keys") hd1 (by show 3 < sizeLine; decide), ?_⟩
  rw [put_keys]
  have k2 : Kp st H (upd H1 st (.dK (stK sc ia (ka + 1)))) := kSt k1
  have hd2 : upd H1 st (.dK (stK sc ia (ka + 1))) st = some (.dK (stK sc ia (ka + 1))) := upd_same
  have s2 : StD sc (upd H1 st (.dK (stK sc ia (ka + 1)))) st := ⟨ia, ka + 1, hd2, hia⟩
  generalize upd H1 st (.dK (stK sc ia (ka + 1))) = H2 at k2 hd2 s2
  -- left
  refine ⟨fun v H' => H2 = H' ∧ ∃ lf : Nat, v = .int (lf : Nat) ∧ (lf = l ∨ lf = 0), fun R hR => ?_, ?_⟩
  · refine ⟨_, rfl, st, .int (ka + 1), rfl, by rw [← st_keys sc ia (ka + 1)]; exact DGet.k (k := Sum.inr "keys") hd2, _, _, rfl, rfl, _, rfl, ?_⟩
    refine ite2 (fun _ => ?_) (fun _ => ?_)
    · exact ⟨_, rfl, hR _ _ ⟨rfl, l, rfl, .inl rfl⟩⟩
    · exact hR _ _ ⟨rfl, 0, rfl, .inr rfl⟩
  rintro _ _ ⟨rfl, lf, rfl, hlf⟩
  -- puts = []
  refine ⟨(by show 0 ≤ sizeLine; decide), fun pl hpl => ?_⟩
  have hpl0 : H pl = none := k2.free s2 hpl
  have plst : pl ≠ st := s2.ne hpl
  have s3 : StD sc (upd H2 pl (.lst [])) st := s2.upd plst
  have k3 : Kp st H (upd H2 pl (.lst [])) := kUpd k2 hpl0
  have l3 : Ls (upd H2 pl (.lst [])) pl (([] : List (List Nat × Plan)).map encPut) := ⟨[], upd_same, rl_nil⟩
  have hb3 := hb.up (k3.tm hok.1)
  generalize upd H2 pl (.lst []) = H3 at s3 k3 l3 hb3
  -- the pieces of dict(book[1])[key]
  refine ⟨_, rfl, _, _, _, .inl hb3, rfl, atI_nat (j := 1) rfl, fun tv htv => ?_⟩
  obtain ⟨ba, bvs, bo, rfl, hba, hbo, hbl⟩ := un_ftup htv
  obtain ⟨as, kvs, rfl, kb, kk⟩ := KB.of (K := K) hbl
  refine ⟨ba, bo, as, kvs, rfl, hba, hbo, kk, fun dd hdd => ?_⟩
  obtain ⟨tv, hval, htv'⟩ := kb.look hto
  have e4 : Same H3 (upd H3 dd (.dK (mergeK [] kvs))) := sNew hdd
  have hdd4 : upd H3 dd (.dK (mergeK [] kvs)) dd = some (.dK (mergeK [] kvs)) := upd_same
  generalize upd H3 dd (.dK (mergeK [] kvs)) = H4 at e4 hdd4
  refine ⟨_, rfl, dd, tv, rfl, by rw [← hval]; exact DGet.k (k := Sum.inr key) hdd4, ?_⟩
  refine ⟨_, rl_nil, by simp, fun ev H5 e5 hev => ?_⟩
  refine ⟨tv, ev, t, [], rfl, htv'.up (.of (e4.trans e5)), hev, by have := tok.dep; omega, by omega, by omega, by simp, fun lp H6 e6 n6 hlp => ?_⟩
  have e36 := e4.trans (e5.trans e6)
  have k6 : Kp st H H6 := k3.trans (Kp.of e36)
  have s6 := s3.same e36
  have hb6 := hb3.up (.of e36)
  obtain ⟨ws, hws, hwl⟩ := hlp
  have hwlen : ws.length = (G.places t).length := by rw [hwl.len, List.length_map, pieces_len]; rfl
  have nlp : lp ≠ pl := fun e => by
    obtain ⟨vs, hv, _⟩ := l3.same (e4.trans e5)
    rw [← e, n6] at hv; cases hv
  have nlst : lp ≠ st := (s3.same (e4.trans e5)).ne n6
  have hct : (G.places t).length ≤ 29 := hcn
  refine ⟨lp, rfl, ⟨_, SqL.of hws⟩, ?_⟩
  refine for_list (K := K) (a := lp) (xs := ws) (fun i σ H' => ∃ (c : Int) (o6 o7 o8 o9 : Option V) (puts : List (List Nat × Plan)), σ = [some (.ref st), some bv, some (.str key), some (.int (lf : Nat)), some (.int c), some (.ref pl), o6, o7, o8, o9, none] ∧
      Kp st H H' ∧ StD sc H' st ∧ TM H6 H' ∧ H' lp = some (.lst ws) ∧ Ls H' pl (puts.map encPut) ∧ (puts.map (·.1)).Sublist ((G.places t).take i) ∧ (∀ x ∈ puts, x.2.key ∈ G.takers ts (G.get t x.1)) ∧ (∀ x ∈ puts, G.PlanOk ts m x.2) ∧
      (∀ pq ∈ (G.places t).take i, mustB (G.get t pq) = true → pq ∈ puts.map (·.1)))
    ⟨c0, none, none, none, none, [], rfl, k6, s6, TM.refl _, hws, l3.same e36, by simp, fun x hx => (by cases hx), fun x hx => (by cases hx), fun pq hp => (by simp at hp)⟩ (fun i σ H' _ ⟨_, _, _, _, _, _, _, _, _, _, z, _⟩ => SqL.of z) ?_ ?_
  · rintro i x σ H7 hx ⟨c, o6, o7, o8, o9, puts, rfl, k7, s7, tm7, hlp7, l7, hsub, htk, hpo, hmu⟩
    obtain ⟨d, hd, hxd⟩ := hwl.get hx
    rw [List.getElem?_map] at hd
    obtain ⟨⟨pq, pc⟩, hpc0, rfl⟩ := Option.map_eq_some_iff.mp hd
    obtain ⟨hpq, rfl⟩ := pieces_at hpc0
    have hpqm : pq ∈ G.places t := List.mem_of_getElem? hpq
    have hil : i < (G.places t).length := (List.getElem?_eq_some_iff.mp hpq).1
    have hx7 : Rp H7 (.tup [encP pq, encT (G.get t pq)]) x := hxd.up tm7
    obtain ⟨xa, y1, y2, rfl, hxa, hy1, hy2⟩ := un_tup2 hx7
    have hmn : G.MustNm (G.get t pq) := tok.mu _ (G.get_mem hpqm)
    refine ⟨xa, _, rfl, SqT.of hxa, rfl, _, _, rfl, _, _, rfl, rfl, ?_⟩
    have hb7 := hb6.up tm7
    -- some = _law_takers(book, piece)
    refine ⟨_, rfl, _, rfl, bv, y2, top, ts, _, rfl, hb7, ok, hy2, hmn, fun l8 H8 e8 n8 hl8 => ?_⟩
    have k8 := k7.trans (Kp.of e8)
    have s8 := s7.same e8
    have hy1' := hy1.up (.of e8)
    have hy2' := hy2.up (.of e8)
    have hb8 := hb7.up (.of e8)
    have hlp8 := e8 _ _ hlp7
    have tm8 : TM H6 H8 := tm7.trans (.of e8)
    have l8' := l7.same e8
    -- must
    refine ⟨fun v H' => H8 = H' ∧ v = .bl (mustB (G.get t pq)), fun R hR => ?_, ?_⟩
    · obtain ⟨r, hr0⟩ := rp_tag hy2'
      refine ⟨_, rfl, _, _, _, .inl hr0, rfl, at0, fun w1 hw1 => ?_⟩
      rw [un_str hw1]
      refine ⟨rfl, _, rfl, ?_⟩
      rw [strD]
      refine ite2 (fun cc => ?_) (fun cc => ?_)
      · obtain ⟨nm, e⟩ := tag_hole cc
        refine hR _ _ ⟨rfl, ?_⟩
        rw [e]
        rfl
      · refine ⟨_, rfl, _, _, _, .inl hr0, rfl, at0, fun w2 hw2 => ?_⟩
        rw [un_str hw2]
        refine ⟨rfl, _, rfl, ?_⟩
        rw [strD]
        refine ite2 (fun c2 => ?_) (fun c2 => ?_)
        · obtain ⟨nm, tk, ks, e⟩ := tag_knot c2
          rw [e, encT] at hy2'
          refine ⟨_, rfl, _, _, _, .inl hy2', rfl, atI_nat (j := 2) rfl, fun w3 hw3 => ?_⟩
          refine ⟨rfl, _, rfl, ?_⟩
          cases tk with
          | none =>
            rw [un_non hw3]
            refine iteF' rfl ?_
            exact hR _ _ ⟨rfl, by rw [e]; rfl⟩
          | some mb =>
            obtain ⟨mm, b⟩ := mb
            obtain ⟨p3, vs3, rfl, _, _⟩ := un_tup hw3
            refine iteT' rfl ?_
            refine ⟨_, rfl, _, _, _, .inl hy2', rfl, atI_nat (j := 2) rfl, fun w4 hw4 => ?_⟩
            refine ⟨_, _, _, .inl hw4, rfl, atI_nat (j := 1) rfl, fun w5 hw5 => ?_⟩
            rw [un_bl hw5]
            exact hR _ _ ⟨rfl, by rw [e]; rfl⟩
        · refine hR _ _ ⟨rfl, ?_⟩
          unfold mustB
          rw [want_none cc c2]
    rintro _ _ ⟨rfl, rfl⟩
    -- the filter
    refine ⟨fun σ H' => ∃ (l9 : Addr) (S : List Str), σ = [some (.ref st), some bv, some (.str key), some (.int (lf : Nat)), some (.int c), some (.ref pl), some y1, some y2, some (.ref l9), some (.bl (mustB (G.get t pq))), none] ∧ Same H8 H' ∧ Ls H' l9 (S.map D.str) ∧
        (S = G.takers ts (G.get t pq) ∨ S = G.based (G.takers ts (G.get t pq))) ∧ (lf = 0 → S = G.based (G.takers ts (G.get t pq))), ?_, ?_⟩
    · refine ⟨fun b H' => H8 = H' ∧ (lf = 0 → b = true), fun R hR => ?_, ?_⟩
      · obtain ⟨i8, k8', hd8, _⟩ := id s8
        refine ⟨_, rfl, rfl, _, rfl, ?_⟩
        rw [intD]
        refine ite2 (fun cc => hR _ _ ⟨rfl, fun _ => rfl⟩) (fun cc => ?_)
        have hlf0 : lf ≠ 0 := fun e => cc (decide_eq_true (by omega))
        refine ⟨_, rfl, _, _, rfl, rfl, (by show (0 : Int) < 3; decide), rfl, _, rfl, ?_⟩
        refine ite2 (fun c2 => hR _ _ ⟨rfl, fun _ => rfl⟩) (fun c2 => ?_)
        refine ⟨_, rfl, st, .int k8', rfl, by rw [← st_keys sc i8 k8']; exact DGet.k (k := Sum.inr "keys") hd8, _, _, rfl, rfl, _, rfl, ?_⟩
        exact hR _ _ ⟨rfl, fun e => absurd e hlf0⟩
      · rintro b _ ⟨rfl, hb0⟩
        cases b with
        | false =>
          refine iteF' rfl ?_
          exact ⟨l8, _, rfl, Same.refl _, hl8, .inl rfl, fun e => by have := hb0 e; cases this⟩
        | true =>
          refine iteT' rfl ?_
          obtain ⟨vs8, hvs8, hvl8⟩ := hl8
          have hv8 := un_strs hvl8
          subst hv8
          refine ⟨_, rfl, l8, rfl, ⟨_, SqL.of hvs8⟩, fun D0 hD0 => ?_⟩
          have hlen8 : ((G.takers ts (G.get t pq)).map V.str).length = (G.takers ts (G.get t pq)).length := List.length_map _
          have htl : (G.takers ts (G.get t pq)).length ≤ 11 := by
            unfold G.takers G.takersBy
            split
            · simp
            · rw [List.length_map]
              exact Nat.le_trans (List.length_filter_le _ _) ok.len
          refine lc_list (K := K) (a := l8) (xs := (G.takers ts (G.get t pq)).map V.str) (fun j H' => Same H8 H' ∧ Ls H' D0 ((G.based ((G.takers ts (G.get t pq)).take j)).map D.str)) ⟨sNew hD0, [], upd_same, rl_nil⟩ (fun j H' _ ⟨s', _⟩ => SqL.of (s' _ _ hvs8)) ?_ ?_
          · rintro j y H9 hy ⟨s9, l9⟩
            rw [List.getElem?_map] at hy
            obtain ⟨k1, hk1, rfl⟩ := Option.map_eq_some_iff.mp hy
            refine ⟨rfl, ?_⟩
            refine ⟨_, rfl, _, rl_strs (ks := G.baseKeys), by decide +kernel, fun tb H10 e10 htb => ?_⟩
            obtain ⟨ta, tvs, rfl, hta, htl2⟩ := un_tup htb
            rw [un_strs (ks := G.baseKeys) htl2] at hta
            refine ⟨ta, _, rfl, .inr (SqT.of hta), rfl, flat_strs _, _, rfl, ?_⟩
            obtain ⟨acc, hacc, hal⟩ := l9.same e10
            have al : acc.length ≤ 11 := by
              have := filter_len (fun k => decide (k ∈ G.baseKeys)) (G.takers ts (G.get t pq)) j
              rw [hal.len, List.length_map]
              unfold G.based
              omega
            have hf : G.based ((G.takers ts (G.get t pq)).take (j + 1)) = G.based ((G.takers ts (G.get t pq)).take j) ++ (if decide (k1 ∈ G.baseKeys) then [k1] else []) := filter_take_succ (fun k => decide (k ∈ G.baseKeys)) hk1
            rw [hf]
            have hin : (if false = true then !inV (.str k1) (G.baseKeys.map V.str) else inV (.str k1) (G.baseKeys.map V.str)) = decide (k1 ∈ G.baseKeys) := by rw [if_neg Bool.false_ne_true, inV_strs]
            rw [hin]
            refine ite2 (fun cc => ?_) (fun cc => ?_)
            · refine ⟨_, rfl, acc, hacc, small (by omega), sUpd (s9.trans e10) hD0, ?_⟩
              rw [if_pos cc, List.map_append]
              exact Ls.push hacc hal rp_str
            · refine ⟨s9.trans e10, ?_⟩
              rw [if_neg cc, List.append_nil]
              exact ⟨acc, hacc, hal⟩
          · rintro H9 ⟨s9, l9⟩
            rw [hlen8, List.take_length] at l9
            exact ⟨D0, _, rfl, s9, l9, .inr rfl, fun _ => rfl⟩
    · rintro _ H9 ⟨l9, S, rfl, e9, hl9, hS, hS0⟩
      have k9 := k8.trans (Kp.of e9)
      have s9 := s8.same e9
      have hb9 := hb8.up (.of e9)
      have tm9 : TM H6 H9 := tm8.trans (.of e9)
      have l9' := l8'.same e9
      have hlp9 := e9 _ _ hlp8
      have hy1'' := hy1'.up (.of e9)
      have hSt : ∀ k ∈ S, k ∈ G.takers ts (G.get t pq) := fun k hk => by
        rcases hS with e | e
        · rw [← e]; exact hk
        · rw [e] at hk; exact (based_sub hk).1
      have tsucc : (G.places t).take (i + 1) = (G.places t).take i ++ [pq] := by rw [List.take_succ, hpq]; rfl
      refine ⟨fun b H' => H9 = H' ∧ (b = true → S ≠ []) ∧ (b = false → mustB (G.get t pq) = false), fun R hR => ?_, ?_⟩
      · refine ⟨_, rfl, _, rfl, ?_⟩
        cases hmb : mustB (G.get t pq) with
        | true =>
          refine iteT' rfl (hR _ _ ⟨rfl, fun _ => ?_, fun z => (by cases z)⟩)
          -- a base tree is there
          have hw : ∃ g n, G.want (G.get t pq) = some (g, n, true) := by
            unfold mustB at hmb
            split at hmb
            · rename_i g n b hw
              subst hmb
              exact ⟨g, n, hw⟩
            · cases hmb
          obtain ⟨g, n, hw⟩ := hw
          have hbh := G.based_has ok hw ((hmn g n true hw).2 rfl)
          rcases hS with e | e
          · rw [e]
            intro z
            rw [z] at hbh
            exact hbh rfl
          · rw [e]; exact hbh
        | false =>
          refine iteF' rfl ?_
          refine ⟨_, rfl, l9, _, rfl, hl9, _, _, rfl, rfl, _, rfl, ?_⟩
          rw [List.length_map]
          refine ite2 (fun cc => ?_) (fun cc => hR _ _ ⟨rfl, fun z => (by cases z), fun _ => hmb⟩)
          have hS1 : S ≠ [] := fun z => by
            have := of_decide_eq_true cc
            rw [z] at this
            exact absurd this (by decide)
          refine ⟨_, rfl, _, _, rfl, rfl, _, rfl, ?_⟩
          refine ite2 (fun c2 => ?_) (fun c2 => hR _ _ ⟨rfl, fun z => (by cases z), fun _ => hmb⟩)
          refine ⟨_, rfl, _, _, rfl, rfl, ⟨by decide, by decide⟩, _, _, rfl, rfl, (by show (0 : Int) < 3; decide), _, _, rfl, rfl, _, rfl, ?_⟩
          exact hR _ _ ⟨rfl, fun _ => hS1, fun _ => hmb⟩
      · rintro b _ ⟨rfl, hbT, hbF⟩
        cases b with
        | false =>
          refine iteF' rfl ?_
          refine ⟨c, _, _, _, _, puts, rfl, k9, s9, tm9, hlp9, l9', ?_, htk, hpo, fun p' hp' hm' => ?_⟩
          · rw [tsucc]
            exact hsub.trans (List.sublist_append_left _ _)
          · rw [tsucc] at hp'
            rcases List.mem_append.mp hp' with hp' | hp'
            · exact hmu p' hp' hm'
            · rw [List.mem_singleton.mp hp', hbF rfl] at hm'; cases hm'
        | true =>
          refine iteT' rfl ?_
          have hS1 := hbT rfl
          have hSl : 0 < S.length := Nat.pos_of_ne_zero fun z => hS1 (List.eq_nil_of_length_eq_zero z)
          obtain ⟨acc, hacc, hal⟩ := l9'
          have accl : acc.length ≤ 29 := by
            have h1 := hsub.length_le
            rw [hal.len, List.length_map]
            rw [List.length_map, List.length_take] at h1
            omega
          refine ⟨_, rfl, .inl ⟨rfl, _, SqL.of hacc⟩, ?_⟩
          refine ⟨_, rfl, _, rfl, _, rfl, _, rfl, _, rfl, _, _, rfl, rfl, ⟨by decide, by decide⟩, _, rfl, l9, _, rfl, hl9, ?_⟩
          rw [List.length_map]
          refine ⟨_, _, rfl, rfl, (by show (0 : Int) < ((S.length : Nat) : Int); omega), ?_⟩
          refine pickD hl9 (Int.emod_nonneg _ (by omega)) (by rw [List.length_map]; exact Int.emod_lt_of_pos _ (by omega)) fun dk hdk kv hkv => ?_
          obtain ⟨k1, hk1, rfl⟩ := List.mem_map.mp hdk
          rw [un_str hkv]
          refine ⟨_, rfl, _, _, rfl, rfl, _, _, rfl, ?_⟩
          have hmax : (if (lf : Int) - 1 > 0 then (lf : Int) - 1 else 0) = (((lf - 1 : Nat) : Nat) : Int) := by
            by_cases z : (lf : Int) - 1 > 0
            · rw [if_pos z]; omega
            · rw [if_neg z]; omega
          rw [show (if ((((lf : Nat) : Int)) - 1 : Int) > 0 then (((lf : Nat) : Int) - 1 : Int) else (0 : Int)) = (((lf - 1 : Nat) : Nat) : Int) from hmax]
          have hkt := hSt k1 hk1
          have hnb : ¬ key ∈ G.baseKeys := fun z => by
            have hw := ok.base _ _ (G.treeOf_mem hto) z _ (G.get_mem hpqm)
            rw [G.takers_none hw] at hkt
            cases hkt
          have hl2 : l + 2 ≤ m + 1 := by
            rcases hcase with h | h
            · exact absurd h.1 hnb
            · exact h
          have hcase' : (k1 ∈ G.baseKeys ∧ 1 ≤ m) ∨ (lf - 1) + 2 ≤ m := by
            by_cases z : lf = 0
            · have := hS0 z
              rw [this] at hk1
              exact .inl ⟨(based_sub hk1).2, by omega⟩
            · rcases hlf with e | e
              · exact .inr (by omega)
              · exact absurd e z
          refine ⟨st, sc, ns, bv, top, ts, k1, lf - 1, rfl, hok.re k9 s9, hb9, ok, G.takers_mem hkt, hcase', by omega, fun pr H10 pln k10 s10 hpr hpo' hkey => ?_⟩
          have tm10 := k10.tm s9
          refine ⟨_, rl_cons (hy1''.up tm10) (rl_one hpr), by simp, fun pv' H11 e11 hpv => ?_⟩
          have hacc11 := e11 _ _ (k10 _ _ plst hacc)
          have tm11 : TM H9 H11 := tm10.trans (.of e11)
          refine ⟨pl, acc, pv', rfl, rfl, hacc11, small (by omega), ?_⟩
          refine ⟨_, rfl, _, _, rfl, rfl, ⟨by decide, by decide⟩, _, _, rfl, rfl, ?_⟩
          refine ⟨_, _, _, _, _, puts ++ [(pq, pln)], rfl, kUpd (k9.trans (k10.trans (Kp.of e11))) hpl0, (s10.same e11).upd plst, tm9.trans (tm11.trans (.upd (.lst hacc11))), ?_, ?_, ?_, fun x hx => ?_, fun x hx => ?_, fun p' hp' hm' => ?_⟩
          · rw [upd_ne nlp]
            exact e11 _ _ (k10 _ _ nlst hlp9)
          · rw [List.map_append]
            exact Ls.push hacc11 (hal.up tm11) hpv
          · rw [tsucc, List.map_append]
            exact hsub.append (List.Sublist.refl _)
          · rcases List.mem_append.mp hx with hx | hx
            · exact htk x hx
            · rw [List.mem_singleton.mp hx]
              show pln.key ∈ _
              rw [hkey]
              exact hkt
          · rcases List.mem_append.mp hx with hx | hx
            · exact hpo x hx
            · rw [List.mem_singleton.mp hx]; exact hpo'
          · rw [List.map_append, List.mem_append]
            rw [tsucc] at hp'
            rcases List.mem_append.mp hp' with hp' | hp'
            · exact .inl (hmu p' hp' hm')
            · rw [List.mem_singleton.mp hp']
              exact .inr (by simp)
  · rintro σ H7 ⟨c, o6, o7, o8, o9, puts, rfl, k7, s7, tm7, hlp7, l7, hsub, htk, hpo, hmu⟩
    rw [hwlen, List.take_length] at hsub hmu
    refine ⟨_, rfl, _, rfl, pl, _, rfl, l7, fun pv' H8 e8 hpv => ?_⟩
    refine ⟨_, rl_cons rp_str (rl_one hpv), by simp, fun r H9 e9 hr9 => ?_⟩
    refine q r H9 (.mk key puts) (k7.trans (Kp.of (e8.trans e9))) (s7.same (e8.trans e9)) (by rw [encPl_eq]; exact hr9) ?_ rfl
    refine .mk hto hsub htk (fun pq hpq g n hw => hmu pq hpq ?_) hpo
    unfold mustB
    rw [hw]
theorem ok_plan (S : Std K mg "_law_plan" sPlan ["state", "book", "key", "left"] f fd) (CC : Cal P w K mg base "_law_cell" 1 ["state"] (spCell (K := K))) (CP : Cal P w K mg base "_law_pieces" 7 ["tree", "place"] (spPieces 6)) (CT : Cal P w K mg base "_law_takers" 9 ["book", "piece"] spLTakers) (B : Blt mg) :
    ∀ n, Cal P w K mg base "_law_plan" (n + 9) ["state", "book", "key", "left"] (spPlan K n)
  | 0 => S.cal (fn_never fun vs H Q E h => by
      obtain ⟨st, sc, ns, bv, top, ts, key, l, _, _, _, _, _, hc, _⟩ := h
      rcases hc with h | h
      · exact absurd h.2 (by omega)
      · omega)
  | n + 1 => S.cal (ok_plan_step S.fn CC CP CT (ok_plan S CC CP CT B n) B)
end
end L2.Gs
set_option Elab.async false
set_option linter.all false
set_option maxRecDepth 100000
set_option maxHeartbeats 4000000
namespace L2.Gs
open PySem PySem.Spec PyProof.Rows
open _root_.G (Tre Plan Trees)
section
variable {P : Program} {w : World} {K : PySem.W.Frag} {mg : Str → Option Value} {base : Heap} {f : Addr} {fd : FuncData}
/-! ### _law_within -/
def spWithin (n : Nat) : Sp := fun vs H Q _ => ∃ (v : V) (ts : Trees) (p : Plan), vs = [v] ∧ Rp H (encPl p) v ∧ G.TreesOk ts ∧ G.PlanOk ts n p ∧ n ≤ 5 ∧ ∀ l H', Same H H' → H l = none → Ls H' l ((G.within p).map encPl) → Q (.ref l) H'
theorem scWithin : FnScope ["plan", "found", "place", "one"] ["plan"] (defScope sWithin) := ⟨rfl, rfl, rfl, by decide +kernel, rfl, by decide +kernel, by decide +kernel⟩
theorem withinL_take {ps : List (List Nat × Plan)} {i : Nat} {x : List Nat × Plan} (h : ps[i]? = some x) : G.withinL (ps.take (i + 1)) = G.withinL (ps.take i) ++ G.within x.2 := by
  rw [List.take_succ, h]
  simp [G.withinL_flat]
theorem sizeL_take (ps : List (List Nat × Plan)) (i : Nat) : G.sizeL (ps.take i) ≤ G.sizeL ps := by
  induction ps generalizing i with
  | nil => simp
  | cons t r ih =>
    obtain ⟨a, b⟩ := t
    cases i with
    | zero => simp [G.sizeL]
    | succ i => rw [List.take_succ_cons, G.sizeL, G.sizeL]; have := ih i; omega
theorem ok_within_step {n : Nat} (F : Fun K "_law_within" "_law_within" sWithin f fd) (CS : Cal P w K mg base "_law_within" (n + 1) ["plan"] (spWithin n)) : FnOk P w K mg base CX0 (n + 1 + 1) f fd ["plan"] (spWithin (n + 1)) := by
  refine F.ok scWithin (fun vs H Q E h => ?_) (fun cdv A outer s H vs Q E hr h => ?_)
  · obtain ⟨v, ts, p, rfl, _⟩ := h
    rfl
  obtain ⟨v, ts, p, rfl, hv, ok, hp, hn, q⟩ := h
  have nd := scWithin.nd
  refine ⟨_, pss_cons (ps_set (i := 1) nd rfl (Or.inl rfl) (pe_lstD (pa_cons (pv 0) pa_nil)))
    (pss_cons (ps_for PassesOwn.never rfl (pi_tup (pe_ix ix_D (pv 0) pe_int (fun _ _ => rfl))) (pg_tup rfl (pgs_cons (pg_name (i := 2) nd rfl (Or.inl rfl)) (pgs_cons (pg_name (i := 3) nd rfl (Or.inl rfl)) pgs_nil)))
      (pss_one (ps_expr (pe_bm PySem.F.plainAttrs_list PySem.F.slot_list_extend PySem.F.type_list_extend mt_extend (pv 1) (pa_cons (pe_cal CS hr (pa_cons (pv 3) pa_nil)) pa_nil)))))
    (pss_one (ps_ret (pv 1)))), ?_⟩
  have hcap := hp.size ok
  have hcap2 := G.capP_mono hn
  rw [G.capP5] at hcap2
  cases hp with
  | @mk _ key puts t h1 h2 h3 h4 h5 =>
  rw [G.size] at hcap
  refine ⟨_, rfl, _, rl_one hv, by simp, fun l H1 s1 n1 hl1 => ?_⟩
  have hv1 := hv.up (.of s1)
  rw [encPl_eq] at hv1
  refine ⟨_, rfl, _, _, _, .inl hv1, rfl, atI_nat (j := 1) rfl, fun w5 hw5 => ?_⟩
  obtain ⟨a, xs, o, rfl, ha, _, hl⟩ := un_ftup hw5
  have hlen : xs.length = puts.length := by rw [hl.len, List.length_map]
  refine ⟨a, rfl, ⟨_, SqT.fz ha⟩, ?_⟩
  refine for_tup (K := K) (a := a) (xs := xs) (fun i σ H' => ∃ o2 o3, σ = [some v, some (.ref l), o2, o3] ∧ Same H H' ∧ TM H1 H' ∧ Ls H' l ((Plan.mk key puts :: G.withinL (puts.take i)).map encPl))
    ⟨none, none, rfl, s1, TM.refl _, by simpa [G.withinL] using hl1⟩ (fun i σ H' _ ⟨_, _, _, _, tm, _⟩ => SqT.fz (tm.f _ _ _ ha)) ?_ ?_
  · rintro i x σ H4 hx ⟨o2, o3, rfl, s4, tm4, ⟨acc, hacc, hal⟩⟩
    obtain ⟨d, hd, hxd⟩ := hl.get hx
    rw [List.getElem?_map] at hd
    obtain ⟨⟨q1, pl⟩, hk1, rfl⟩ := Option.map_eq_some_iff.mp hd
    have hx4 : Rp H4 (.tup [encP q1, encPl pl]) x := hxd.up tm4
    obtain ⟨p, y1, y2, rfl, hp, hy1, hy2⟩ := un_tup2 hx4
    refine ⟨p, _, rfl, SqT.of hp, rfl, _, _, rfl, _, _, rfl, rfl, ?_⟩
    refine ⟨_, rfl, .inl ⟨rfl, _, SqL.of hacc⟩, ?_⟩
    refine ⟨_, rfl, y2, ts, pl, rfl, hy2, ok, h5 _ (List.mem_of_getElem? hk1), by omega, fun l6 H6 s6 n6 hl6 => ?_⟩
    obtain ⟨zs, hzs, hzl⟩ := hl6
    have hacc6 := s6 _ _ hacc
    refine ⟨l, l6, acc, zs, rfl, rfl, hacc6, hzs, Nat.le_of_lt (small ?_), ?_⟩
    · have e1 := hal.len
      have e2 := hzl.len
      rw [List.length_map, List.length_cons, G.withinL_len] at e1
      rw [List.length_map, G.within_len] at e2
      have e3 := sizeL_take puts (i + 1)
      have e4 : G.sizeL (puts.take (i + 1)) = G.sizeL (puts.take i) + G.size pl := by
        rw [← G.withinL_len, withinL_take hk1, List.length_append, G.withinL_len, G.within_len]
      omega
    · refine ⟨_, _, rfl, sUpd (s4.trans s6) n1, tm4.trans ((TM.of s6).trans (.upd (.lst hacc6))), ?_⟩
      rw [withinL_take hk1]
      have h := Ls.apps hacc6 (hal.up (.of s6)) hzl
      simpa using h
  · rintro σ H4 ⟨o2, o3, rfl, s4, tm4, l4⟩
    rw [hlen, List.take_length] at l4
    refine ⟨_, rfl, q l H4 s4 n1 ?_⟩
    rw [G.within]
    exact l4
theorem ok_within (S : Std K mg "_law_within" sWithin ["plan"] f fd) : ∀ n, Cal P w K mg base "_law_within" (n + 1) ["plan"] (spWithin n)
  | 0 => S.cal (fn_never fun vs H Q E h => by
      obtain ⟨v, ts, p, _, _, _, hp, _⟩ := h
      cases hp)
  | n + 1 => S.cal (ok_within_step S.fn (ok_within S n))

/-! ### law -/
theorem merge_stK (sc : Addr) : mergeK [] (stK sc 0 0) = stK sc 0 0 := by
  show putK (putK (putK [] (Sum.inr ("script" : Str) : Key) (.ref sc)) (Sum.inr ("at" : Str) : Key) (.int 0)) (Sum.inr ("keys" : Str) : Key) (.int 0) = stK sc 0 0
  have n1 : valV ([] : List (Key × V)) (Sum.inr ("script" : Str) : Key) = none := rfl
  rw [putK_new _ n1]
  have n2 : valV ([] ++ [((Sum.inr ("script" : Str) : Key), V.ref sc)]) (Sum.inr ("at" : Str) : Key) = none := by
    show valV [((Sum.inr ("script" : Str) : Key), V.ref sc)] (Sum.inr ("at" : Str) : Key) = none
    rw [valV_neg (ne_key (by decide +kernel))]
    rfl
  rw [putK_new _ n2]
  have n3 : valV ([] ++ [((Sum.inr ("script" : Str) : Key), V.ref sc)] ++ [((Sum.inr ("at" : Str) : Key), V.int 0)]) (Sum.inr ("keys" : Str) : Key) = none := by
    show valV [((Sum.inr ("script" : Str) : Key), V.ref sc), ((Sum.inr ("at" : Str) : Key), V.int 0)] (Sum.inr ("keys" : Str) : Key) = none
    rw [valV_neg (ne_key (by decide +kernel)), valV_neg (ne_key (by decide +kernel))]
    rfl
  rw [putK_new _ n3]
  rfl
def spLaw (K : PySem.W.Frag) : Sp := fun vs H Q _ => ∃ (a : Addr) (ns : List Int), vs = [.ref a] ∧ SqL K H a (ns.map V.int) ∧ ns.length ≤ 63 ∧ ∀ H', Q (.bl true) H'
abbrev nLaw : List Str := ["script", "state", "cell", "book", "key", "tree", "plan", "some", "one", "told", "due", "size"]
theorem scLaw : FnScope nLaw ["script"] (defScope sLaw) := ⟨rfl, rfl, rfl, by decide +kernel, rfl, by decide +kernel, by decide +kernel⟩
theorem nobody {t : Tre} (h : G.TreeOk t) : decide (G.called t = (false, ("NOBODY" : Str))) = false := by
  refine decide_eq_false fun e => ?_
  have h2 := G.called_nm h
  rw [e] at h2
  rcases h2 with h2 | h2 | h2 <;> exact absurd h2 (by decide +kernel)
theorem ok_law (F : Fun K "law" "law" sLaw f fd) (CC : Cal P w K mg base "_law_cell" 1 ["state"] (spCell (K := K))) (CB : Cal P w K mg base "_law_book" 8 ["state", "many", "left"] (spBook K)) (CP : Cal P w K mg base "_law_plan" 14 ["state", "book", "key", "left"] (spPlan K 5))
    (CI : Cal P w K mg base "is_plan" 16 ["book", "thing"] (spIsPlan 5)) (CW : Cal P w K mg base "_law_within" 6 ["plan"] (spWithin 5)) (CH : Cal P w K mg base "is_whole" 10 ["book", "plan"] spWhole) (CL : Cal P w K mg base "_law_called" 8 ["tree"] spCalled) (CS : Cal P w K mg base "size_of" 6 ["plan"] (spSize 5)) (B : Blt mg) :
    FnOk P w K mg base CX0 17 f fd ["script"] (spLaw K) := by
  refine F.ok scLaw (fun vs H Q E h => ?_) (fun cdv A outer s H vs Q E hr h => ?_)
  · obtain ⟨a, ns, rfl, _⟩ := h
    rfl
  obtain ⟨a, ns, rfl, hsq, h63, q⟩ := h
  have nd := scLaw.nd
  have hu := hu_of hr
  have hu64 := hr.units
  have hr1 : Room 1 _ := hr.mono (by decide)
  have hr6 : Room 6 _ := hr.mono (by decide)
  have hr8 : Room 8 _ := hr.mono (by decide)
  have hr10 : Room 10 _ := hr.mono (by decide)
  have hr14 : Room 14 _ := hr.mono (by decide)
  refine ⟨_, pss_cons (ps_set (i := 1) nd rfl (Or.inl rfl) (pe_disp (pps_cons pe_str (pv 0) (pps_cons pe_str pe_int (pps_cons pe_str pe_int pps_nil))) (by rfl) (by rfl) (fun z => by cases z) (by decide)))
    (pss_cons (ps_set (i := 2) nd rfl (Or.inl rfl) (pe_cal CC hr1 (pa_cons (pv 1) pa_nil)))
    (pss_cons (ps_set (i := 3) nd rfl (Or.inl rfl) (pe_cal CB hr8 (pa_cons (pv 1) (pa_cons (pe_op op_mod (pv 2) pe_int) (pa_cons pe_int pa_nil)))))
    (pss_cons (ps_for PassesOwn.never rfl (pi_tup (pe_ix ix_D (pv 3) pe_int (fun _ _ => rfl))) (pg_tup rfl (pgs_cons (pg_name (i := 4) nd rfl (Or.inl rfl)) (pgs_cons (pg_name (i := 5) nd rfl (Or.inl rfl)) pgs_nil)))
      (pss_cons (ps_dput hu (pv 1) pe_str pe_int rfl)
      (pss_cons (ps_set (i := 6) nd rfl (Or.inl rfl) (pe_cal CP hr14 (pa_cons (pv 1) (pa_cons (pv 3) (pa_cons (pv 4) (pa_cons pe_int pa_nil))))))
      (pss_cons (ps_if (pt_cmpR op_notBl (pe_cal CI hr (pa_cons (pv 3) (pa_cons (pv 6) pa_nil))) pe_bl (nomark _)) (pss_one (ps_ret pe_bl)) pss_nil)
      (pss_cons (ps_set (i := 7) nd rfl (Or.inl rfl) (pe_cal CW hr6 (pa_cons (pv 6) pa_nil)))
      (pss_one (ps_for PassesOwn.never rfl (pi_list (pe_slice sl_list (pv 7) po_none (po_some pe_int))) (pg_name (i := 8) nd rfl (Or.inl rfl))
        (pss_cons (ps_set (i := 9) nd rfl (Or.inl rfl) (pe_cal CH hr10 (pa_cons (pv 3) (pa_cons (pv 8) pa_nil))))
        (pss_cons (ps_set (i := 10) nd rfl (Or.inl rfl) (pe_cmpR (op_eqD hu64) (pe_cal CL hr8 (pa_cons (pe_dget hu (pe_callTy (call_dictF rfl) rfl B.dict (by decide +kernel) (pa_cons (pe_ix ix_D (pv 3) pe_int (fun _ _ => rfl)) pa_nil)) (pe_ix ix_D (pv 8) pe_int (fun _ _ => rfl)) (fun _ _ => rfl)) pa_nil))
            (pe_tupD (pa_cons pe_bl (pa_cons (pe_ix ix_D (pv 3) pe_int (fun _ _ => rfl)) pa_nil))) (nomark _)))
        (pss_cons (ps_if (PW.pt (pw_or (pt_not (pt_val (pe_callB call_isi rfl B.isi (by decide +kernel) (pa_cons (pv 9) (pa_cons (pe_bltn (v := .ty "bool") rfl B.bool (by decide +kernel) rfl) pa_nil))))) (pw_or1 (pt_cmpR op_ne (pv 9) (pv 10) (nomark _))))) (pss_one (ps_ret pe_bl)) pss_nil)
        (pss_cons (ps_if (pt_cmpR op_notBl (pe_cal CH hr10 (pa_cons (pe_tupD (pa_cons pe_str (pa_cons (pe_ix ix_D (pv 3) pe_int (fun _ _ => rfl)) pa_nil))) (pa_cons (pv 8) pa_nil))) pe_bl (nomark _)) (pss_one (ps_ret pe_bl)) pss_nil)
        (pss_cons (ps_set (i := 11) nd rfl (Or.inl rfl) (pe_cal CS hr6 (pa_cons (pv 8) pa_nil)))
        (pss_one (ps_if (PW.pt (pw_or (pt_val (pe_callB call_isi rfl B.isi (by decide +kernel) (pa_cons (pv 11) (pa_cons (pe_bltn (v := .ty "bool") rfl B.bool (by decide +kernel) rfl) pa_nil))))
            (pw_or (pt_not (pt_val (pe_callB call_isi rfl B.isi (by decide +kernel) (pa_cons (pv 11) (pa_cons (pe_bltn (v := .ty "int") rfl B.int (by decide +kernel) rfl) pa_nil)))))
            (pw_or1 (pt_cmpR op_ne (pv 11) (pe_callB call_lenLD rfl B.len PySem.boot_len (pa_cons (pe_cal CW hr6 (pa_cons (pv 8) pa_nil)) pa_nil)) (nomark _)))))) (pss_one (ps_ret pe_bl)) pss_nil))))))))))))))
    (pss_one (ps_ret pe_bl))))), ?_⟩
  -- the state
  intro st hst
  refine ⟨_, rfl, upd_same, stK a 0 0, rfl, by show 3 ≤ 15; decide, ?_⟩
  rw [upd_upd, merge_stK]
  have k0 : Same H (upd H st (.dK (stK a 0 0))) := sNew hst
  have s0 : StD a (upd H st (.dK (stK a 0 0))) st := ⟨0, 0, upd_same, Int.le_refl 0⟩
  have sq0 : SqL K (upd H st (.dK (stK a 0 0))) a (ns.map V.int) := k0.seq hsq
  have ok0 : StOk K a ns (upd H st (.dK (stK a 0 0))) st := ⟨s0, sq0⟩
  generalize upd H st (.dK (stK a 0 0)) = H0 at ok0
  clear k0 s0 sq0
  refine ⟨_, rfl, st, a, ns, rfl, ok0, fun c H1 k1 s1 => ?_⟩
  have ok1 := ok0.re k1 s1
  -- the book
  refine ⟨_, rfl, _, rfl, _, _, rfl, rfl, (by show (0 : Int) < 6; decide), st, a, ns, _, rfl, ok1, Int.emod_nonneg _ (by decide), by have := Int.emod_lt_of_pos c (show (0 : Int) < 6 by decide); omega, fun bv H2 top ts k2 s2 hb tok htop => ?_⟩
  have ok2 := ok1.re k2 s2
  refine ⟨_, rfl, _, _, _, .inl hb, rfl, atI_nat (j := 1) rfl, fun tv htv => ?_⟩
  obtain ⟨ba, bvs, bo, rfl, hba, hbo, hbl⟩ := un_ftup htv
  refine ⟨ba, rfl, ⟨_, SqT.fz hba⟩, ?_⟩
  refine for_tup (K := K) (a := ba) (xs := bvs) (fun i σ H' => ∃ o4 o5 o6 o7 o8 o9 o10 o11, σ = [some (.ref a), some (.ref st), some (.int c), some bv, o4, o5, o6, o7, o8, o9, o10, o11] ∧ StOk K a ns H' st ∧ TM H2 H')
    ⟨none, none, none, none, none, none, none, none, rfl, ok2, TM.refl _⟩ (fun i σ H' _ ⟨_, _, _, _, _, _, _, _, _, _, tm⟩ => SqT.fz (tm.f _ _ _ hba)) ?_ (fun σ H' ⟨_, _, _, _, _, _, _, _, _, _, _⟩ => q _)
  rintro i x σ H3 hx ⟨o4, o5, o6, o7, o8, o9, o10, o11, rfl, ok3, tm3⟩
  obtain ⟨d, hd, hxd⟩ := hbl.get hx
  rw [List.getElem?_map] at hd
  obtain ⟨⟨key, tr⟩, hk1, rfl⟩ := Option.map_eq_some_iff.mp hd
  have hx3 : Rp H3 (.tup [.str key, encT tr]) x := hxd.up tm3
  obtain ⟨xa, y1, y2, rfl, hxa, hy1, hy2⟩ := un_tup2 hx3
  rw [un_str hy1] at hxa
  refine ⟨xa, _, rfl, SqT.of hxa, rfl, _, _, rfl, _, _, rfl, rfl, ?_⟩
  -- state['keys'] = 0
  obtain ⟨ia, ka, hd3, hia⟩ := id ok3.1
  refine ⟨_, rfl, st, _, rfl, DPut.k (k := Sum.inr "keys") hd3 (by show 3 < sizeLine; decide), ?_⟩
  rw [put_keys]
  have k4 : Kp st H3 (upd H3 st (.dK (stK a ia 0))) := kSt (Kp.refl _ _)
  have s4 : StD a (upd H3 st (.dK (stK a ia 0))) st := ⟨ia, 0, upd_same, hia⟩
  have ok4 := ok3.re k4 s4
  have tm4 : TM H2 (upd H3 st (.dK (stK a ia 0))) := tm3.trans (.upd (.dK hd3))
  generalize upd H3 st (.dK (stK a ia 0)) = H4 at ok4 tm4
  clear k4 s4
  have hb4 := hb.up tm4
  -- the plan
  refine ⟨_, rfl, _, rfl, _, rfl, st, a, ns, bv, top, ts, key, 3, rfl, ok4, hb4, tok, ⟨tr, List.mem_of_getElem? hk1⟩, .inr (by omega), by omega, fun pv' H5 pl k5 s5 hpl hpo hkey => ?_⟩
  have ok5 := ok4.re k5 s5
  have tm5 : TM H2 H5 := tm4.trans (k5.tm ok4.1)
  have hb5 := hb.up tm5
  refine ⟨_, rfl, _, rfl, bv, pv', top, ts, pl, rfl, hb5, tok, hpl, hpo, fun H6 e6 => ?_⟩
  refine ⟨_, _, rfl, rfl, _, rfl, ?_⟩
  refine iteF' rfl ?_
  refine ⟨_, rfl, pv', ts, pl, rfl, hpl.up (.of e6), tok, hpo, by omega, fun l7 H7 e7 n7 hl7 => ?_⟩
  have e57 := e6.trans e7
  obtain ⟨ws, hws, hwl⟩ := hl7
  -- some[:9]
  refine ⟨_, rfl, _, rfl, l7, ws, rfl, SqL.of hws, fun l8 hl8 => ?_⟩
  have e8 : Same H7 (upd H7 l8 (.lst (cutV ws none (some 9)))) := sNew hl8
  have hws8 : upd H7 l8 (.lst (cutV ws none (some 9))) l8 = some (.lst (cutV ws none (some 9))) := upd_same
  generalize upd H7 l8 (.lst (cutV ws none (some 9))) = H8 at e8 hws8
  have hsub : ∀ y, y ∈ cutV ws none (some 9) → ∃ p ∈ G.within pl, Rp H7 (encPl p) y := fun y hy => by
    have hm : y ∈ ws := List.mem_of_mem_drop (List.mem_of_mem_take hy)
    obtain ⟨j, hj⟩ := List.getElem?_of_mem hm
    obtain ⟨dd, hdd, hyd⟩ := hwl.get hj
    rw [List.getElem?_map] at hdd
    obtain ⟨p, hp, rfl⟩ := Option.map_eq_some_iff.mp hdd
    exact ⟨p, List.mem_of_getElem? hp, hyd⟩
  have e58 := e57.trans e8
  refine ⟨l8, rfl, ⟨_, SqL.of hws8⟩, ?_⟩
  refine for_list (K := K) (a := l8) (xs := cutV ws none (some 9)) (fun j σ H' => ∃ o8 o9 o10 o11, σ = [some (.ref a), some (.ref st), some (.int c), some bv, some (.str key), some y2, some pv', some (.ref l7), o8, o9, o10, o11] ∧ Same H8 H')
    ⟨o8, o9, o10, o11, rfl, Same.refl _⟩ (fun j σ H' _ ⟨_, _, _, _, _, s'⟩ => SqL.of (s' _ _ hws8)) ?_ ?_
  · rintro j y σ H9 hy ⟨o8, o9, o10, o11, rfl, e9⟩
    obtain ⟨p, hpm, hpy⟩ := hsub y (List.mem_of_getElem? hy)
    have hpok := hpo.within p hpm
    obtain ⟨t', ht'⟩ := hpok.tree
    have tok' := tok.ok _ _ (G.treeOf_mem ht')
    have hcn := tok'.cn
    have hy9 := hpy.up (.of (e8.trans e9))
    have hb9 := hb5.up (.of (e58.trans e9))
    -- told
    refine ⟨_, rfl, _, rfl, bv, y, top, ts, p, t', rfl, hb9, tok, hy9, ht', fun H10 e10 => ?_⟩
    have hb10 := hb9.up (.of e10)
    have hy10 := hy9.up (.of e10)
    -- due
    refine ⟨_, rfl, _, _, _, .inl hb10, rfl, atI_nat (j := 1) rfl, fun dv hdv => ?_⟩
    obtain ⟨da, dvs, dob, rfl, hda, hdo, hdl⟩ := un_ftup hdv
    obtain ⟨as, kvs, rfl, kb, kk⟩ := KB.of (K := K) hdl
    refine ⟨da, dob, as, kvs, rfl, hda, hdo, kk, fun dd hdd => ?_⟩
    obtain ⟨tv', hval, htv'⟩ := kb.look ht'
    have e11 : Same H10 (upd H10 dd (.dK (mergeK [] kvs))) := sNew hdd
    have hdd11 : upd H10 dd (.dK (mergeK [] kvs)) dd = some (.dK (mergeK [] kvs)) := upd_same
    generalize upd H10 dd (.dK (mergeK [] kvs)) = H11 at e11 hdd11
    have hy11 := hy10.up (.of e11)
    rw [encPl_pl] at hy11
    refine ⟨_, rfl, _, _, _, .inl hy11, rfl, atI_nat (j := 0) rfl, fun kv hkv => ?_⟩
    rw [un_str hkv]
    refine ⟨dd, tv', rfl, by rw [← hval]; exact DGet.k (k := Sum.inr p.key) hdd11, ?_⟩
    refine ⟨tv', t', rfl, htv'.up (.of e11), tok'.kn, tok'.dep, by omega, fun cv H12 e12 hcv => ?_⟩
    have hb12 := (hb10.up (.of e11)).up (.of e12)
    refine ⟨_, rfl, _, _, _, .inl hb12, rfl, atI_nat (j := 0) rfl, fun tpv htpv => ?_⟩
    refine ⟨_, rl_cons rp_bl (rl_one htpv), by simp, fun fv H13 e13 hfv => ?_⟩
    have hfv' : Rp H13 (encC (false, top)) fv := hfv
    refine ⟨_, _, Rp.dp _ _ (hcv.up (.of e13)), Rp.dp _ _ hfv', shaped_C (.inl (G.called_nm tok')), shaped_C (.inl htop), ?_⟩
    rw [eqv_C]
    have e913 : Same H9 H13 := e10.trans (e11.trans (e12.trans e13))
    have hy13 := hy9.up (.of e913)
    have hb13 := hb9.up (.of e913)
    -- the tests
    refine ⟨_, rfl, _, _, _, _, true, rfl, .ty _, .base (.bl _), kit_ty (by decide +kernel), _, rfl, ?_⟩
    refine iteF' rfl ?_
    refine ⟨_, rfl, _, rfl, rfl, _, rfl, ?_⟩
    refine iteF' ?_ ?_
    · rw [decide_eq_true rfl]; rfl
    refine ⟨_, rfl, _, _, _, .inl hb13, rfl, atI_nat (j := 1) rfl, fun bv2 hbv2 => ?_⟩
    refine ⟨_, rl_cons rp_str (rl_one hbv2), by simp, fun nb H14 e14 hnb => ?_⟩
    refine ⟨_, rfl, nb, y, "NOBODY", ts, p, t', rfl, hnb, tok, hy13.up (.of e14), ht', fun H15 e15 => ?_⟩
    refine ⟨_, _, rfl, rfl, _, rfl, ?_⟩
    rw [nobody tok']
    refine iteF' rfl ?_
    have hy15 := hy13.up (.of (e14.trans e15))
    refine ⟨_, rfl, y, ts, p, rfl, hy15, tok, hpok, fun H16 e16 => ?_⟩
    refine ⟨_, rfl, _, _, _, _, false, rfl, .ty _, .base (.int _), kit_ty (by decide +kernel), _, rfl, ?_⟩
    refine iteF' rfl ?_
    refine ⟨_, rfl, _, _, _, _, true, rfl, .ty _, .base (.int _), kit_ty (by decide +kernel), _, rfl, ?_⟩
    refine iteF' rfl ?_
    refine ⟨_, rfl, _, rfl, y, ts, p, rfl, hy15.up (.of e16), tok, hpok, by omega, fun l17 H17 e17 n17 hl17 => ?_⟩
    refine ⟨l17, _, rfl, hl17, rfl, _, rfl, ?_⟩
    refine iteF' ?_ ?_
    · rw [List.length_map, G.within_len, decide_eq_true rfl]; rfl
    exact ⟨_, _, _, _, rfl, e9.trans (e913.trans (e14.trans (e15.trans (e16.trans e17))))⟩
  · rintro σ H9 ⟨o8, o9, o10, o11, rfl, e9⟩
    refine ⟨_, _, _, _, _, _, _, _, rfl, ?_, tm5.trans (.of (e58.trans e9))⟩
    exact ok5.re (Kp.of (e58.trans e9)) (ok5.1.same (e58.trans e9))
end
end L2.Gs
set_option Elab.async false
set_option linter.all false
set_option maxRecDepth 100000
set_option maxHeartbeats 4000000
/-! the top: where each def stands; the walk -/
namespace L2.Gs
open PySem PySem.Spec PyProof.Rows
section
variable {P : Program} {w : World} {K : PySem.W.Frag} {mg : Str → Option Value} {base : Heap}
theorem law_all {f1 f2 f3 f4 f5 f6 f7 f8 f9 f10 f11 f12 f13 f14 f15 f16 f17 f18 f19 f20 f21 f22 f23 f24 f25 f26 : Addr} {d1 d2 d3 d4 d5 d6 d7 d8 d9 d10 d11 d12 d13 d14 d15 d16 d17 d18 d19 d20 d21 d22 d23 d24 d25 d26 : FuncData} (B : Blt mg)
    (S1 : Std K mg "kids_of" sKids ["tree"] f1 d1)
    (S2 : Std K mg "places" sPlaces ["tree"] f2 d2)
    (S3 : Std K mg "piece_at" sPiece ["tree", "place"] f3 d3)
    (S4 : Std K mg "feet_of" sFeet ["tree"] f4 d4)
    (S5 : Std K mg "is_graft" sGraft ["tree"] f5 d5)
    (S6 : Std K mg "name_of" sName ["tree"] f6 d6)
    (S7 : Std K mg "tree_of" sTreeOf ["book", "key"] f7 d7)
    (S8 : Std K mg "wanted" sWanted ["piece"] f8 d8)
    (S9 : Std K mg "takers" sTakers ["book", "piece"] f9 d9)
    (S10 : Std K mg "are_numbers" sNumbers ["thing"] f10 d10)
    (S11 : Std K mg "are_puts" sPuts ["thing"] f11 d11)
    (S12 : Std K mg "put_well" sWell ["book", "tree", "puts"] f12 d12)
    (S13 : Std K mg "is_plan" sIsPlan ["book", "thing"] f13 d13)
    (S14 : Std K mg "is_whole" sWhole ["book", "plan"] f14 d14)
    (S15 : Std K mg "size_of" sSize ["plan"] f15 d15)
    (S16 : Std K mg "_law_cell" sCell ["state"] f16 d16)
    (S17 : Std K mg "_law_kid" sKid ["state", "left"] f17 d17)
    (S18 : Std K mg "_law_footed" sFooted ["tree", "foot", "cell"] f18 d18)
    (S19 : Std K mg "_law_drawn" sDrawn ["state", "left"] f19 d19)
    (S20 : Std K mg "_law_book" sBook ["state", "many", "left"] f20 d20)
    (S21 : Std K mg "_law_pieces" sPieces ["tree", "place"] f21 d21)
    (S22 : Std K mg "_law_called" sCalled ["tree"] f22 d22)
    (S23 : Std K mg "_law_takers" sLTakers ["book", "piece"] f23 d23)
    (S24 : Std K mg "_law_plan" sPlan ["state", "book", "key", "left"] f24 d24)
    (S25 : Std K mg "_law_within" sWithin ["plan"] f25 d25)
    (S26 : Std K mg "law" sLaw ["script"] f26 d26)
    : FnOk P w K mg base CX0 17 f26 d26 ["script"] (spLaw K) := by
  have kids := (S1).cal (P := P) (w := w) (base := base) (ok_kids (S1).fn)
  have plcs := ok_places (P := P) (w := w) (base := base) S2 kids B.enum 5
  have piece := (S3).cal (ok_piece (S3).fn kids B.len)
  have feet := (S4).cal (ok_feet (S4).fn plcs piece)
  have graft := (S5).cal (ok_graft (S5).fn feet B.len)
  have name := (S6).cal (ok_name (S6).fn feet B.len)
  have treeOf := (S7).cal (P := P) (w := w) (base := base) (ok_treeOf (S7).fn)
  have wanted := (S8).cal (P := P) (w := w) (base := base) (ok_wanted (S8).fn)
  have takers := (S9).cal (ok_takers (S9).fn wanted graft name)
  have numbers := (S10).cal (P := P) (w := w) (base := base) (ok_numbers (S10).fn B)
  have puts := (S11).cal (ok_puts (S11).fn numbers B)
  have well := (S12).cal (ok_well (S12).fn plcs piece wanted takers B)
  have isPlan := ok_isPlan (P := P) (w := w) (base := base) S13 puts treeOf well B 5
  have whole := (S14).cal (ok_whole (S14).fn treeOf graft name)
  have size := ok_size (P := P) (w := w) (base := base) S15 B 5
  have cell := (S16).cal (P := P) (w := w) (base := base) (ok_cell (S16).fn B)
  have kid := ok_kid (P := P) (w := w) (base := base) S17 cell B 3
  have footed := ok_footed (P := P) (w := w) (base := base) S18 B 5
  have drawn := (S19).cal (ok_drawn (S19).fn cell kid footed B)
  have book := (S20).cal (ok_book (S20).fn cell drawn B)
  have pieces := ok_pieces (P := P) (w := w) (base := base) S21 B 6
  have called := (S22).cal (ok_called (S22).fn pieces B)
  have ltakers := (S23).cal (ok_ltakers (S23).fn called)
  have plan := ok_plan (P := P) (w := w) (base := base) S24 cell pieces ltakers B 5
  have within := ok_within (P := P) (w := w) (base := base) S25 5
  exact ok_law (S26).fn cell book plan isPlan within whole called size B
end
theorem std_mk {K : PySem.W.Frag} {h : Heap} {mg : Str → Option Value} {x : Str} {st : Stmt} {ps : List Str} {f : Addr} (X : K.In h) (G : h.Ns mainGlobals mg) {oc : Value} {od an : Option Addr} {osl : Array (Option Value)} {kV dc pm cdv ct : Value}
    (a : PySem.W.nsIn K mainGlobals x = some (some (.ref f))) (l : K.lookup f = some ⟨oc, od, .func (PySem.W.fnOf x x (defArgs st) (defBody st) (defScope st) .none kV dc pm an cdv ct), osl⟩) (c : PySem.W.codeIn K cdv x = true) (k : PySem.W.keepIn K (.ref f) = true)
    (b : ∀ (kV doc pm : Value) (an : Option Addr) (cdv ct : Value) (us : List Value), us.length = ps.length → bindArgs (PySem.W.fnOf x x (defArgs st) (defBody st) (defScope st) .none kV doc pm an cdv ct) ⟨us, []⟩ = pure (ps.zip us)) :
    Std K mg x st ps f (PySem.W.fnOf x x (defArgs st) (defBody st) (defScope st) .none kV dc pm an cdv ct) :=
  ⟨fun_mk l c k, (fun_mk l c k).binds b, PySem.W.mg_of X G a⟩
theorem all_mk {l : PySem.W.OpenLaw} {w : World} {K : PySem.W.Frag} {h : Heap} {mg : Str → Option Value} {fa f1 f2 f3 f4 f5 f6 f7 f8 f9 f10 f11 f12 f13 f14 f15 f16 f17 f18 f19 f20 f21 f22 f23 f24 f25 f26 : Addr} (X : K.In h) (G : h.Ns mainGlobals mg) (hfa : mg "law" = some (.ref fa))
    {od1 an1 od2 an2 od3 an3 od4 an4 od5 an5 od6 an6 od7 an7 od8 an8 od9 an9 od10 an10 od11 an11 od12 an12 od13 an13 od14 an14 od15 an15 od16 an16 od17 an17 od18 an18 od19 an19 od20 an20 od21 an21 od22 an22 od23 an23 od24 an24 od25 an25 od26 an26 : Option Addr} {sl1 sl2 sl3 sl4 sl5 sl6 sl7 sl8 sl9 sl10 sl11 sl12 sl13 sl14 sl15 sl16 sl17 sl18 sl19 sl20 sl21 sl22 sl23 sl24 sl25 sl26 : Array (Option Value)} {oc1 kV1 dc1 pm1 cd1 ct1 oc2 kV2 dc2 pm2 cd2 ct2 oc3 kV3 dc3 pm3 cd3 ct3 oc4 kV4 dc4 pm4 cd4 ct4 oc5 kV5 dc5 pm5 cd5 ct5 oc6 kV6 dc6 pm6 cd6 ct6 oc7 kV7 dc7 pm7 cd7 ct7 oc8 kV8 dc8 pm8 cd8 ct8 oc9 kV9 dc9 pm9 cd9 ct9 oc10 kV10 dc10 pm10 cd10 ct10 oc11 kV11 dc11 pm11 cd11 ct11 oc12 kV12 dc12 pm12 cd12 ct12 oc13 kV13 dc13 pm13 cd13 ct13 oc14 kV14 dc14 pm14 cd14 ct14 oc15 kV15 dc15 pm15 cd15 ct15 oc16 kV16 dc16 pm16 cd16 ct16 oc17 kV17 dc17 pm17 cd17 ct17 oc18 kV18 dc18 pm18 cd18 ct18 oc19 kV19 dc19 pm19 cd19 ct19 oc20 kV20 dc20 pm20 cd20 ct20 oc21 kV21 dc21 pm21 cd21 ct21 oc22 kV22 dc22 pm22 cd22 ct22 oc23 kV23 dc23 pm23 cd23 ct23 oc24 kV24 dc24 pm24 cd24 ct24 oc25 kV25 dc25 pm25 cd25 ct25 oc26 kV26 dc26 pm26 cd26 ct26 : Value}
    (a1 : PySem.W.nsIn K mainGlobals "kids_of" = some (some (.ref f1))) (l1 : K.lookup f1 = some ⟨oc1, od1, .func (PySem.W.fnOf "kids_of" "kids_of" (defArgs sKids) (defBody sKids) (defScope sKids) .none kV1 dc1 pm1 an1 cd1 ct1), sl1⟩) (c1 : PySem.W.codeIn K cd1 "kids_of" = true) (k1 : PySem.W.keepIn K (.ref f1) = true)
    (a2 : PySem.W.nsIn K mainGlobals "places" = some (some (.ref f2))) (l2 : K.lookup f2 = some ⟨oc2, od2, .func (PySem.W.fnOf "places" "places" (defArgs sPlaces) (defBody sPlaces) (defScope sPlaces) .none kV2 dc2 pm2 an2 cd2 ct2), sl2⟩) (c2 : PySem.W.codeIn K cd2 "places" = true) (k2 : PySem.W.keepIn K (.ref f2) = true)
    (a3 : PySem.W.nsIn K mainGlobals "piece_at" = some (some (.ref f3))) (l3 : K.lookup f3 = some ⟨oc3, od3, .func (PySem.W.fnOf "piece_at" "piece_at" (defArgs sPiece) (defBody sPiece) (defScope sPiece) .none kV3 dc3 pm3 an3 cd3 ct3), sl3⟩) (c3 : PySem.W.codeIn K cd3 "piece_at" = true) (k3 : PySem.W.keepIn K (.ref f3) = true)
    (a4 : PySem.W.nsIn K mainGlobals "feet_of" = some (some (.ref f4))) (l4 : K.lookup f4 = some ⟨oc4, od4, .func (PySem.W.fnOf "feet_of" "feet_of" (defArgs sFeet) (defBody sFeet) (defScope sFeet) .none kV4 dc4 pm4 an4 cd4 ct4), sl4⟩) (c4 : PySem.W.codeIn K cd4 "feet_of" = true) (k4 : PySem.W.keepIn K (.ref f4) = true)
    (a5 : PySem.W.nsIn K mainGlobals "is_graft" = some (some (.ref f5))) (l5 : K.lookup f5 = some ⟨oc5, od5, .func (PySem.W.fnOf "is_graft" "is_graft" (defArgs sGraft) (defBody sGraft) (defScope sGraft) .none kV5 dc5 pm5 an5 cd5 ct5), sl5⟩) (c5 : PySem.W.codeIn K cd5 "is_graft" = true) (k5 : PySem.W.keepIn K (.ref f5) = true)
    (a6 : PySem.W.nsIn K mainGlobals "name_of" = some (some (.ref f6))) (l6 : K.lookup f6 = some ⟨oc6, od6, .func (PySem.W.fnOf "name_of" "name_of" (defArgs sName) (defBody sName) (defScope sName) .none kV6 dc6 pm6 an6 cd6 ct6), sl6⟩) (c6 : PySem.W.codeIn K cd6 "name_of" = true) (k6 : PySem.W.keepIn K (.ref f6) = true)
    (a7 : PySem.W.nsIn K mainGlobals "tree_of" = some (some (.ref f7))) (l7 : K.lookup f7 = some ⟨oc7, od7, .func (PySem.W.fnOf "tree_of" "tree_of" (defArgs sTreeOf) (defBody sTreeOf) (defScope sTreeOf) .none kV7 dc7 pm7 an7 cd7 ct7), sl7⟩) (c7 : PySem.W.codeIn K cd7 "tree_of" = true) (k7 : PySem.W.keepIn K (.ref f7) = true)
    (a8 : PySem.W.nsIn K mainGlobals "wanted" = some (some (.ref f8))) (l8 : K.lookup f8 = some ⟨oc8, od8, .func (PySem.W.fnOf "wanted" "wanted" (defArgs sWanted) (defBody sWanted) (defScope sWanted) .none kV8 dc8 pm8 an8 cd8 ct8), sl8⟩) (c8 : PySem.W.codeIn K cd8 "wanted" = true) (k8 : PySem.W.keepIn K (.ref f8) = true)
    (a9 : PySem.W.nsIn K mainGlobals "takers" = some (some (.ref f9))) (l9 : K.lookup f9 = some ⟨oc9, od9, .func (PySem.W.fnOf "takers" "takers" (defArgs sTakers) (defBody sTakers) (defScope sTakers) .none kV9 dc9 pm9 an9 cd9 ct9), sl9⟩) (c9 : PySem.W.codeIn K cd9 "takers" = true) (k9 : PySem.W.keepIn K (.ref f9) = true)
    (a10 : PySem.W.nsIn K mainGlobals "are_numbers" = some (some (.ref f10))) (l10 : K.lookup f10 = some ⟨oc10, od10, .func (PySem.W.fnOf "are_numbers" "are_numbers" (defArgs sNumbers) (defBody sNumbers) (defScope sNumbers) .none kV10 dc10 pm10 an10 cd10 ct10), sl10⟩) (c10 : PySem.W.codeIn K cd10 "are_numbers" = true) (k10 : PySem.W.keepIn K (.ref f10) = true)
    (a11 : PySem.W.nsIn K mainGlobals "are_puts" = some (some (.ref f11))) (l11 : K.lookup f11 = some ⟨oc11, od11, .func (PySem.W.fnOf "are_puts" "are_puts" (defArgs sPuts) (defBody sPuts) (defScope sPuts) .none kV11 dc11 pm11 an11 cd11 ct11), sl11⟩) (c11 : PySem.W.codeIn K cd11 "are_puts" = true) (k11 : PySem.W.keepIn K (.ref f11) = true)
    (a12 : PySem.W.nsIn K mainGlobals "put_well" = some (some (.ref f12))) (l12 : K.lookup f12 = some ⟨oc12, od12, .func (PySem.W.fnOf "put_well" "put_well" (defArgs sWell) (defBody sWell) (defScope sWell) .none kV12 dc12 pm12 an12 cd12 ct12), sl12⟩) (c12 : PySem.W.codeIn K cd12 "put_well" = true) (k12 : PySem.W.keepIn K (.ref f12) = true)
    (a13 : PySem.W.nsIn K mainGlobals "is_plan" = some (some (.ref f13))) (l13 : K.lookup f13 = some ⟨oc13, od13, .func (PySem.W.fnOf "is_plan" "is_plan" (defArgs sIsPlan) (defBody sIsPlan) (defScope sIsPlan) .none kV13 dc13 pm13 an13 cd13 ct13), sl13⟩) (c13 : PySem.W.codeIn K cd13 "is_plan" = true) (k13 : PySem.W.keepIn K (.ref f13) = true)
    (a14 : PySem.W.nsIn K mainGlobals "is_whole" = some (some (.ref f14))) (l14 : K.lookup f14 = some ⟨oc14, od14, .func (PySem.W.fnOf "is_whole" "is_whole" (defArgs sWhole) (defBody sWhole) (defScope sWhole) .none kV14 dc14 pm14 an14 cd14 ct14), sl14⟩) (c14 : PySem.W.codeIn K cd14 "is_whole" = true) (k14 : PySem.W.keepIn K (.ref f14) = true)
    (a15 : PySem.W.nsIn K mainGlobals "size_of" = some (some (.ref f15))) (l15 : K.lookup f15 = some ⟨oc15, od15, .func (PySem.W.fnOf "size_of" "size_of" (defArgs sSize) (defBody sSize) (defScope sSize) .none kV15 dc15 pm15 an15 cd15 ct15), sl15⟩) (c15 : PySem.W.codeIn K cd15 "size_of" = true) (k15 : PySem.W.keepIn K (.ref f15) = true)
    (a16 : PySem.W.nsIn K mainGlobals "_law_cell" = some (some (.ref f16))) (l16 : K.lookup f16 = some ⟨oc16, od16, .func (PySem.W.fnOf "_law_cell" "_law_cell" (defArgs sCell) (defBody sCell) (defScope sCell) .none kV16 dc16 pm16 an16 cd16 ct16), sl16⟩) (c16 : PySem.W.codeIn K cd16 "_law_cell" = true) (k16 : PySem.W.keepIn K (.ref f16) = true)
    (a17 : PySem.W.nsIn K mainGlobals "_law_kid" = some (some (.ref f17))) (l17 : K.lookup f17 = some ⟨oc17, od17, .func (PySem.W.fnOf "_law_kid" "_law_kid" (defArgs sKid) (defBody sKid) (defScope sKid) .none kV17 dc17 pm17 an17 cd17 ct17), sl17⟩) (c17 : PySem.W.codeIn K cd17 "_law_kid" = true) (k17 : PySem.W.keepIn K (.ref f17) = true)
    (a18 : PySem.W.nsIn K mainGlobals "_law_footed" = some (some (.ref f18))) (l18 : K.lookup f18 = some ⟨oc18, od18, .func (PySem.W.fnOf "_law_footed" "_law_footed" (defArgs sFooted) (defBody sFooted) (defScope sFooted) .none kV18 dc18 pm18 an18 cd18 ct18), sl18⟩) (c18 : PySem.W.codeIn K cd18 "_law_footed" = true) (k18 : PySem.W.keepIn K (.ref f18) = true)
    (a19 : PySem.W.nsIn K mainGlobals "_law_drawn" = some (some (.ref f19))) (l19 : K.lookup f19 = some ⟨oc19, od19, .func (PySem.W.fnOf "_law_drawn" "_law_drawn" (defArgs sDrawn) (defBody sDrawn) (defScope sDrawn) .none kV19 dc19 pm19 an19 cd19 ct19), sl19⟩) (c19 : PySem.W.codeIn K cd19 "_law_drawn" = true) (k19 : PySem.W.keepIn K (.ref f19) = true)
    (a20 : PySem.W.nsIn K mainGlobals "_law_book" = some (some (.ref f20))) (l20 : K.lookup f20 = some ⟨oc20, od20, .func (PySem.W.fnOf "_law_book" "_law_book" (defArgs sBook) (defBody sBook) (defScope sBook) .none kV20 dc20 pm20 an20 cd20 ct20), sl20⟩) (c20 : PySem.W.codeIn K cd20 "_law_book" = true) (k20 : PySem.W.keepIn K (.ref f20) = true)
    (a21 : PySem.W.nsIn K mainGlobals "_law_pieces" = some (some (.ref f21))) (l21 : K.lookup f21 = some ⟨oc21, od21, .func (PySem.W.fnOf "_law_pieces" "_law_pieces" (defArgs sPieces) (defBody sPieces) (defScope sPieces) .none kV21 dc21 pm21 an21 cd21 ct21), sl21⟩) (c21 : PySem.W.codeIn K cd21 "_law_pieces" = true) (k21 : PySem.W.keepIn K (.ref f21) = true)
    (a22 : PySem.W.nsIn K mainGlobals "_law_called" = some (some (.ref f22))) (l22 : K.lookup f22 = some ⟨oc22, od22, .func (PySem.W.fnOf "_law_called" "_law_called" (defArgs sCalled) (defBody sCalled) (defScope sCalled) .none kV22 dc22 pm22 an22 cd22 ct22), sl22⟩) (c22 : PySem.W.codeIn K cd22 "_law_called" = true) (k22 : PySem.W.keepIn K (.ref f22) = true)
    (a23 : PySem.W.nsIn K mainGlobals "_law_takers" = some (some (.ref f23))) (l23 : K.lookup f23 = some ⟨oc23, od23, .func (PySem.W.fnOf "_law_takers" "_law_takers" (defArgs sLTakers) (defBody sLTakers) (defScope sLTakers) .none kV23 dc23 pm23 an23 cd23 ct23), sl23⟩) (c23 : PySem.W.codeIn K cd23 "_law_takers" = true) (k23 : PySem.W.keepIn K (.ref f23) = true)
    (a24 : PySem.W.nsIn K mainGlobals "_law_plan" = some (some (.ref f24))) (l24 : K.lookup f24 = some ⟨oc24, od24, .func (PySem.W.fnOf "_law_plan" "_law_plan" (defArgs sPlan) (defBody sPlan) (defScope sPlan) .none kV24 dc24 pm24 an24 cd24 ct24), sl24⟩) (c24 : PySem.W.codeIn K cd24 "_law_plan" = true) (k24 : PySem.W.keepIn K (.ref f24) = true)
    (a25 : PySem.W.nsIn K mainGlobals "_law_within" = some (some (.ref f25))) (l25 : K.lookup f25 = some ⟨oc25, od25, .func (PySem.W.fnOf "_law_within" "_law_within" (defArgs sWithin) (defBody sWithin) (defScope sWithin) .none kV25 dc25 pm25 an25 cd25 ct25), sl25⟩) (c25 : PySem.W.codeIn K cd25 "_law_within" = true) (k25 : PySem.W.keepIn K (.ref f25) = true)
    (a26 : PySem.W.nsIn K mainGlobals "law" = some (some (.ref f26))) (l26 : K.lookup f26 = some ⟨oc26, od26, .func (PySem.W.fnOf "law" "law" (defArgs sLaw) (defBody sLaw) (defScope sLaw) .none kV26 dc26 pm26 an26 cd26 ct26), sl26⟩) (c26 : PySem.W.codeIn K cd26 "law" = true) (k26 : PySem.W.keepIn K (.ref f26) = true)
    (z1 : PySem.W.nsIn K mainGlobals "isinstance" = some none)
    (z2 : PySem.W.nsIn K mainGlobals "tuple" = some none)
    (z3 : PySem.W.nsIn K mainGlobals "bool" = some none)
    (z4 : PySem.W.nsIn K mainGlobals "int" = some none)
    (z5 : PySem.W.nsIn K mainGlobals "str" = some none)
    (z6 : PySem.W.nsIn K mainGlobals "len" = some none)
    (z7 : PySem.W.nsIn K mainGlobals "dict" = some none)
    (z8 : PySem.W.nsIn K mainGlobals "sum" = some none)
    (z9 : PySem.W.nsIn K mainGlobals "enumerate" = some none)
    (z10 : PySem.W.nsIn K mainGlobals "range" = some none)
    (z11 : PySem.W.nsIn K mainGlobals "max" = some none)
    : ∃ fd : FuncData, (∀ (s : Shared) (v : Value), BindsTo s fd ⟨[v], []⟩ [("script", v)]) ∧ ∀ base : Heap, K.In base → base.Ns mainGlobals mg → FnOk l.prog w K mg base CX0 17 fa fd ["script"] (spLaw K) := by
  have e := hfa.symm.trans (PySem.W.mg_of X G a26)
  cases e
  have B : Blt mg := ⟨PySem.W.mg_none_of X G z1, PySem.W.mg_none_of X G z2, PySem.W.mg_none_of X G z3, PySem.W.mg_none_of X G z4, PySem.W.mg_none_of X G z5, PySem.W.mg_none_of X G z6, PySem.W.mg_none_of X G z7, PySem.W.mg_none_of X G z8, PySem.W.mg_none_of X G z9, PySem.W.mg_none_of X G z10, PySem.W.mg_none_of X G z11⟩
  have S1 := std_mk (st := sKids) (ps := ["tree"]) X G a1 l1 c1 k1 fun _ _ _ _ _ _ us hl => match us, hl with | [_], _ => rfl
  have S2 := std_mk (st := sPlaces) (ps := ["tree"]) X G a2 l2 c2 k2 fun _ _ _ _ _ _ us hl => match us, hl with | [_], _ => rfl
  have S3 := std_mk (st := sPiece) (ps := ["tree", "place"]) X G a3 l3 c3 k3 fun _ _ _ _ _ _ us hl => match us, hl with | [_, _], _ => rfl
  have S4 := std_mk (st := sFeet) (ps := ["tree"]) X G a4 l4 c4 k4 fun _ _ _ _ _ _ us hl => match us, hl with | [_], _ => rfl
  have S5 := std_mk (st := sGraft) (ps := ["tree"]) X G a5 l5 c5 k5 fun _ _ _ _ _ _ us hl => match us, hl with | [_], _ => rfl
  have S6 := std_mk (st := sName) (ps := ["tree"]) X G a6 l6 c6 k6 fun _ _ _ _ _ _ us hl => match us, hl with | [_], _ => rfl
  have S7 := std_mk (st := sTreeOf) (ps := ["book", "key"]) X G a7 l7 c7 k7 fun _ _ _ _ _ _ us hl => match us, hl with | [_, _], _ => rfl
  have S8 := std_mk (st := sWanted) (ps := ["piece"]) X G a8 l8 c8 k8 fun _ _ _ _ _ _ us hl => match us, hl with | [_], _ => rfl
  have S9 := std_mk (st := sTakers) (ps := ["book", "piece"]) X G a9 l9 c9 k9 fun _ _ _ _ _ _ us hl => match us, hl with | [_, _], _ => rfl
  have S10 := std_mk (st := sNumbers) (ps := ["thing"]) X G a10 l10 c10 k10 fun _ _ _ _ _ _ us hl => match us, hl with | [_], _ => rfl
  have S11 := std_mk (st := sPuts) (ps := ["thing"]) X G a11 l11 c11 k11 fun _ _ _ _ _ _ us hl => match us, hl with | [_], _ => rfl
  have S12 := std_mk (st := sWell) (ps := ["book", "tree", "puts"]) X G a12 l12 c12 k12 fun _ _ _ _ _ _ us hl => match us, hl with | [_, _, _], _ => rfl
  have S13 := std_mk (st := sIsPlan) (ps := ["book", "thing"]) X G a13 l13 c13 k13 fun _ _ _ _ _ _ us hl => match us, hl with | [_, _], _ => rfl
  have S14 := std_mk (st := sWhole) (ps := ["book", "plan"]) X G a14 l14 c14 k14 fun _ _ _ _ _ _ us hl => match us, hl with | [_, _], _ => rfl
  have S15 := std_mk (st := sSize) (ps := ["plan"]) X G a15 l15 c15 k15 fun _ _ _ _ _ _ us hl => match us, hl with | [_], _ => rfl
  have S16 := std_mk (st := sCell) (ps := ["state"]) X G a16 l16 c16 k16 fun _ _ _ _ _ _ us hl => match us, hl with | [_], _ => rfl
  have S17 := std_mk (st := sKid) (ps := ["state", "left"]) X G a17 l17 c17 k17 fun _ _ _ _ _ _ us hl => match us, hl with | [_, _], _ => rfl
  have S18 := std_mk (st := sFooted) (ps := ["tree", "foot", "cell"]) X G a18 l18 c18 k18 fun _ _ _ _ _ _ us hl => match us, hl with | [_, _, _], _ => rfl
  have S19 := std_mk (st := sDrawn) (ps := ["state", "left"]) X G a19 l19 c19 k19 fun _ _ _ _ _ _ us hl => match us, hl with | [_, _], _ => rfl
  have S20 := std_mk (st := sBook) (ps := ["state", "many", "left"]) X G a20 l20 c20 k20 fun _ _ _ _ _ _ us hl => match us, hl with | [_, _, _], _ => rfl
  have S21 := std_mk (st := sPieces) (ps := ["tree", "place"]) X G a21 l21 c21 k21 fun _ _ _ _ _ _ us hl => match us, hl with | [_, _], _ => rfl
  have S22 := std_mk (st := sCalled) (ps := ["tree"]) X G a22 l22 c22 k22 fun _ _ _ _ _ _ us hl => match us, hl with | [_], _ => rfl
  have S23 := std_mk (st := sLTakers) (ps := ["book", "piece"]) X G a23 l23 c23 k23 fun _ _ _ _ _ _ us hl => match us, hl with | [_, _], _ => rfl
  have S24 := std_mk (st := sPlan) (ps := ["state", "book", "key", "left"]) X G a24 l24 c24 k24 fun _ _ _ _ _ _ us hl => match us, hl with | [_, _, _, _], _ => rfl
  have S25 := std_mk (st := sWithin) (ps := ["plan"]) X G a25 l25 c25 k25 fun _ _ _ _ _ _ us hl => match us, hl with | [_], _ => rfl
  have S26 := std_mk (st := sLaw) (ps := ["script"]) X G a26 l26 c26 k26 fun _ _ _ _ _ _ us hl => match us, hl with | [_], _ => rfl
  exact ⟨PySem.W.fnOf "law" "law" (defArgs sLaw) (defBody sLaw) (defScope sLaw) .none kV26 dc26 pm26 an26 cd26 ct26, fun s v => .of_eq rfl, fun base _ _ => law_all B S1 S2 S3 S4 S5 S6 S7 S8 S9 S10 S11 S12 S13 S14 S15 S16 S17 S18 S19 S20 S21 S22 S23 S24 S25 S26⟩
theorem walk {l : PySem.W.OpenLaw} {q : Program} {loose : List Str} {XP : (Str → Option Value) → Heap → Prop} {YP : World → Heap → Prop} {d : DefRec} {K : Params → PySem.W.Frag} (hn : l.most = some 63) (hdf : d.params.defaults = [])
    (hY : ∀ (w : World) (h : Heap), YP w h → (K w.params).In h)
    (F : ∀ (w : World) (mg : Str → Option Value) (fa : Addr) (h : Heap), (K w.params).In h → h.Ns mainGlobals mg → mg d.name = some (.ref fa) →
      ∃ fd : FuncData, (∀ (s : Shared) (u : Value), BindsTo s fd ⟨[u], []⟩ [("script", u)]) ∧ ∀ base : Heap, (K w.params).In base → base.Ns mainGlobals mg → FnOk l.prog w (K w.params) mg base CX0 17 fa fd ["script"] (spLaw (K w.params))) :
    PySem.W.WalkO q loose XP YP l.row.toRowW d [] (fun f vs => PySem.call f vs) :=
  L2.walk_of (n := 63) (k := 17) (x := "script") (CX := fun _ => CX0) (sp := fun w => spLaw (K w.params)) hn (by decide) hdf ⟨rfl, by decide, by decide⟩ hY F (fun _ _ a ns hl _ hS => ⟨a, ns, rfl, hS, hl, fun _ => rfl⟩) fun _ _ _ _ _ z => z
end L2.Gs

open PySem PySem.W PyProof.Rows in
set_option maxRecDepth 100000 in
set_option maxHeartbeats 0 in
theorem PySem.Challenge.cw_graftsay_k12_whole_plans_and_sizes_holds : PySem.Challenge.rw_graftsay_k12_whole_plans_and_sizes.Holds := by
  w_on; o_law; k_head; (case hw => w_witness2)
  k_fill
  refine L2.Gs.walk (l := PySem.Challenge.rw_graftsay_k12_whole_plans_and_sizes) rfl rfl (fun w h Y => PySem.W.kIn_of Y) ?F
  case F =>
    intro w mg fa h KX G hmg
    refine' L2.Gs.all_mk KX G hmg ?a1 ?l1 ?c1 ?k1 ?a2 ?l2 ?c2 ?k2 ?a3 ?l3 ?c3 ?k3 ?a4 ?l4 ?c4 ?k4 ?a5 ?l5 ?c5 ?k5 ?a6 ?l6 ?c6 ?k6 ?a7 ?l7 ?c7 ?k7 ?a8 ?l8 ?c8 ?k8 ?a9 ?l9 ?c9 ?k9 ?a10 ?l10 ?c10 ?k10 ?a11 ?l11 ?c11 ?k11 ?a12 ?l12 ?c12 ?k12 ?a13 ?l13 ?c13 ?k13 ?a14 ?l14 ?c14 ?k14 ?a15 ?l15 ?c15 ?k15 ?a16 ?l16 ?c16 ?k16 ?a17 ?l17 ?c17 ?k17 ?a18 ?l18 ?c18 ?k18 ?a19 ?l19 ?c19 ?k19 ?a20 ?l20 ?c20 ?k20 ?a21 ?l21 ?c21 ?k21 ?a22 ?l22 ?c22 ?k22 ?a23 ?l23 ?c23 ?k23 ?a24 ?l24 ?c24 ?k24 ?a25 ?l25 ?c25 ?k25 ?a26 ?l26 ?c26 ?k26 ?z1 ?z2 ?z3 ?z4 ?z5 ?z6 ?z7 ?z8 ?z9 ?z10 ?z11
    (case a1 => k_is)
    (case l1 => k_is)
    (case c1 => k_is)
    (case k1 => k_is)
    (case a2 => k_is)
    (case l2 => k_is)
    (case c2 => k_is)
    (case k2 => k_is)
    (case a3 => k_is)
    (case l3 => k_is)
    (case c3 => k_is)
    (case k3 => k_is)
    (case a4 => k_is)
    (case l4 => k_is)
    (case c4 => k_is)
    (case k4 => k_is)
    (case a5 => k_is)
    (case l5 => k_is)
    (case c5 => k_is)
    (case k5 => k_is)
    (case a6 => k_is)
    (case l6 => k_is)
    (case c6 => k_is)
    (case k6 => k_is)
    (case a7 => k_is)
    (case l7 => k_is)
    (case c7 => k_is)
    (case k7 => k_is)
    (case a8 => k_is)
    (case l8 => k_is)
    (case c8 => k_is)
    (case k8 => k_is)
    (case a9 => k_is)
    (case l9 => k_is)
    (case c9 => k_is)
    (case k9 => k_is)
    (case a10 => k_is)
    (case l10 => k_is)
    (case c10 => k_is)
    (case k10 => k_is)
    (case a11 => k_is)
    (case l11 => k_is)
    (case c11 => k_is)
    (case k11 => k_is)
    (case a12 => k_is)
    (case l12 => k_is)
    (case c12 => k_is)
    (case k12 => k_is)
    (case a13 => k_is)
    (case l13 => k_is)
    (case c13 => k_is)
    (case k13 => k_is)
    (case a14 => k_is)
    (case l14 => k_is)
    (case c14 => k_is)
    (case k14 => k_is)
    (case a15 => k_is)
    (case l15 => k_is)
    (case c15 => k_is)
    (case k15 => k_is)
    (case a16 => k_is)
    (case l16 => k_is)
    (case c16 => k_is)
    (case k16 => k_is)
    (case a17 => k_is)
    (case l17 => k_is)
    (case c17 => k_is)
    (case k17 => k_is)
    (case a18 => k_is)
    (case l18 => k_is)
    (case c18 => k_is)
    (case k18 => k_is)
    (case a19 => k_is)
    (case l19 => k_is)
    (case c19 => k_is)
    (case k19 => k_is)
    (case a20 => k_is)
    (case l20 => k_is)
    (case c20 => k_is)
    (case k20 => k_is)
    (case a21 => k_is)
    (case l21 => k_is)
    (case c21 => k_is)
    (case k21 => k_is)
    (case a22 => k_is)
    (case l22 => k_is)
    (case c22 => k_is)
    (case k22 => k_is)
    (case a23 => k_is)
    (case l23 => k_is)
    (case c23 => k_is)
    (case k23 => k_is)
    (case a24 => k_is)
    (case l24 => k_is)
    (case c24 => k_is)
    (case k24 => k_is)
    (case a25 => k_is)
    (case l25 => k_is)
    (case c25 => k_is)
    (case k25 => k_is)
    (case a26 => k_is)
    (case l26 => k_is)
    (case c26 => k_is)
    (case k26 => k_is)
    (case z1 => k_is)
    (case z2 => k_is)
    (case z3 => k_is)
    (case z4 => k_is)
    (case z5 => k_is)
    (case z6 => k_is)
    (case z7 => k_is)
    (case z8 => k_is)
    (case z9 => k_is)
    (case z10 => k_is)
    (case z11 => k_is)
