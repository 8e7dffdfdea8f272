import PyProof.Rows.All
import Wide.All
import OpenK.AllK
import Wide.FinOn
import HandS.Text
import HandS.ForMost
import HandS.AnyAll
import HandS.Gcd
import HandS.DictComp
import HandS.Zip
import HandS.FStr
import HandS.Wide
import HandS.IsInst
import HandS.EndTab
import KE.KNest
import PySem.Challenge.RW_anycompany_k21_whole_books_come_back
set_option Elab.async false
set_option linter.all false
set_option maxRecDepth 100000
set_option maxHeartbeats 4000000
/-! Plain mathematics of books: ratios, lines, texts. No program in sight. -/
namespace Bk
open PySem TL

abbrev Rt := Int × Int
/-- a ratio that may be written -/
structure ROk (r : Rt) : Prop where
  pos : 1 ≤ r.2
  low : Int.gcd r.1 r.2 = 1
  n60 : r.1.natAbs < 10 ^ 60
  d60 : r.2.natAbs < 10 ^ 60
structure NmOk (s : Str) : Prop where
  pos : 1 ≤ s.length
  le : s.length ≤ 20
  low : ∀ c ∈ tl s, 97 ≤ c ∧ c ≤ 122
/-- a line's form -/
inductive Fm where
  | disc (r : Rt) | game (s : Str) | state (r : Rt) | to (k : Nat) (r : Rt) | place (s : Str) (k : Nat)
  deriving DecidableEq
def FOk : Fm → Prop
  | .disc r => ROk r
  | .game s => NmOk s
  | .state r => ROk r
  | .to k r => k < 10 ^ 60 ∧ ROk r
  | .place s k => NmOk s ∧ k < 10 ^ 60

/-! ### signs -/
def intL (i : Int) : List Nat := if i < 0 then 45 :: numL i.natAbs else numL i.natAbs
def ratWords (r : Rt) : List (List Nat) := if r.2 = 1 then [intL r.1] else [intL r.1, numL r.2.natAbs]
def ratL (r : Rt) : List Nat := joinL [47] (ratWords r)
def cDisc : List Nat := [100, 105, 115, 99, 111, 117, 110, 116]
def cGame : List Nat := [103, 97, 109, 101]
def cState : List Nat := [115, 116, 97, 116, 101]
def cTo : List Nat := [116, 111]
def cPlace : List Nat := [112, 108, 97, 99, 101]
def lineWords : Fm → List (List Nat)
  | .disc r => [cDisc, ratL r]
  | .game s => [cGame, tl s]
  | .state r => [cState, ratL r]
  | .to k r => [cTo, numL k, ratL r]
  | .place s k => [cPlace, tl s, numL k]
def lineL (f : Fm) : List Nat := joinL [32] (lineWords f)
def textL (fs : List Fm) : List Nat := joinL [10] (fs.map lineL ++ [[]])

theorem neg_str : ∀ n : Nat, 0 < n → tl (Str.ofString (toString (-(n : Int)))) = 45 :: numL n := by
  intro n hn
  obtain ⟨m, rfl⟩ : ∃ m, n = m + 1 := ⟨n - 1, by omega⟩
  have e : (-((m + 1 : Nat) : Int)) = Int.negSucc m := rfl
  rw [e, tl_ofString]
  have e2 : toString (Int.negSucc m) = "-" ++ toString (m + 1) := rfl
  rw [e2, String.toList_append, List.map_append]
  show 45 :: ((Nat.repr (m + 1)).toList.map Char.toNat) = 45 :: numL (m + 1)
  unfold numL Nat.repr
  rw [String.toList_ofList]
theorem tl_int (i : Int) : tl (Str.ofString (toString i)) = intL i := by
  unfold intL
  by_cases h : i < 0
  · rw [if_pos h]
    obtain ⟨n, e⟩ : ∃ n : Nat, i = -(n : Int) := ⟨i.natAbs, by omega⟩
    subst e
    have hn : 0 < n := by omega
    rw [neg_str n hn]
    have : (-(n : Int)).natAbs = n := by omega
    rw [this]
  · rw [if_neg h]
    obtain ⟨n, e⟩ : ∃ n : Nat, i = (n : Int) := ⟨i.natAbs, by omega⟩
    subst e
    rw [tl_num]
    have : ((n : Int)).natAbs = n := by omega
    rw [this]

theorem numL_head : ∀ n : Nat, ∃ c r, numL n = c :: r ∧ (c = 48 → n = 0 ∧ r = []) := by
  intro n
  induction n using Nat.strongRecOn with
  | _ n ih =>
    by_cases h : n < 10
    · rw [numL_lt h]
      exact ⟨_, [], rfl, fun e => ⟨by omega, rfl⟩⟩
    · obtain ⟨c, r, e, k⟩ := ih (n / 10) (by omega)
      rw [numL_step (by omega), e]
      refine ⟨c, r ++ [48 + n % 10], rfl, fun z => ?_⟩
      have := (k z).1
      omega
theorem numL_zero : numL 0 = [48] := numL_lt (by decide)
theorem digit_of {n c : Nat} (h : c ∈ numL n) : 48 ≤ c ∧ c ≤ 57 := numL_digits n c h
theorem numL_60 {n : Nat} (h : n < 10 ^ 60) : (numL n).length ≤ 60 := numL_len (by decide) h
theorem numL_pos (n : Nat) : 1 ≤ (numL n).length := by
  have := numL_ne n
  cases e : numL n with
  | nil => exact absurd e this
  | cons a b => simp

theorem intL_signs {i : Int} {c : Nat} (h : c ∈ intL i) : c = 45 ∨ (48 ≤ c ∧ c ≤ 57) := by
  unfold intL at h
  split at h
  · rcases List.mem_cons.mp h with e | e
    · exact .inl e
    · exact .inr (digit_of e)
  · exact .inr (digit_of h)
theorem intL_len {i : Int} (h : i.natAbs < 10 ^ 60) : (intL i).length ≤ 61 := by
  unfold intL
  split
  · rw [List.length_cons]
    have := numL_60 h
    omega
  · have := numL_60 h
    omega
theorem ratL_signs {r : Rt} {c : Nat} (h : c ∈ ratL r) : c = 45 ∨ c = 47 ∨ (48 ≤ c ∧ c ≤ 57) := by
  unfold ratL ratWords at h
  split at h
  · have h' : c ∈ intL r.1 := h
    rcases intL_signs h' with e | e
    · exact .inl e
    · exact .inr (.inr e)
  · have h' : c ∈ intL r.1 ++ ([47] ++ numL r.2.natAbs) := h
    rcases List.mem_append.mp h' with e | e
    · rcases intL_signs e with e | e
      · exact .inl e
      · exact .inr (.inr e)
    · rcases List.mem_append.mp e with e | e
      · exact .inr (.inl (List.mem_singleton.mp e))
      · exact .inr (.inr (digit_of e))
theorem ratL_len {r : Rt} (h : ROk r) : (ratL r).length ≤ 122 := by
  unfold ratL ratWords
  have h1 := intL_len h.n60
  have h2 := numL_60 h.d60
  split
  · show (intL r.1).length ≤ 122
    omega
  · show (intL r.1 ++ ([47] ++ numL r.2.natAbs)).length ≤ 122
    simp only [List.length_append, List.length_singleton]
    omega
/-- no blank, no line end, no slash in the words -/
theorem ratWords_free {r : Rt} : ∀ p ∈ ratWords r, 47 ∉ p := by
  intro p hp hc
  unfold ratWords at hp
  split at hp
  · rw [List.mem_singleton.mp hp] at hc
    rcases intL_signs hc with e | e <;> omega
  · rcases List.mem_cons.mp hp with e | e
    · rw [e] at hc
      rcases intL_signs hc with e | e <;> omega
    · rw [List.mem_singleton.mp e] at hc
      have := digit_of hc
      omega
theorem ratWords_ne (r : Rt) : ratWords r ≠ [] := by
  unfold ratWords
  split <;> simp
theorem nm_free {s : Str} (h : NmOk s) {c : Nat} (hc : c = 32 ∨ c = 10) : c ∉ tl s := fun m => by
  have := h.low c m
  omega
theorem lineWords_free {f : Fm} (h : FOk f) {c : Nat} (hc : c = 32 ∨ c = 10) : ∀ p ∈ lineWords f, c ∉ p := by
  have hr : ∀ r : Rt, c ∉ ratL r := fun r m => by
    rcases ratL_signs m with e | e | e <;> omega
  have hn : ∀ n : Nat, c ∉ numL n := fun n m => by
    have := digit_of m
    omega
  intro p hp
  cases f with
  | disc r =>
    simp only [lineWords, List.mem_cons, List.mem_nil_iff, or_false, List.not_mem_nil] at hp
    rcases hp with e | e <;> subst e
    · rcases hc with e | e <;> subst e <;> decide
    · exact hr r
  | game s =>
    simp only [lineWords, List.mem_cons, List.mem_nil_iff, or_false, List.not_mem_nil] at hp
    rcases hp with e | e <;> subst e
    · rcases hc with e | e <;> subst e <;> decide
    · exact nm_free h hc
  | state r =>
    simp only [lineWords, List.mem_cons, List.mem_nil_iff, or_false, List.not_mem_nil] at hp
    rcases hp with e | e <;> subst e
    · rcases hc with e | e <;> subst e <;> decide
    · exact hr r
  | to k r =>
    simp only [lineWords, List.mem_cons, List.mem_nil_iff, or_false, List.not_mem_nil] at hp
    rcases hp with e | e | e <;> subst e
    · rcases hc with e | e <;> subst e <;> decide
    · exact hn k
    · exact hr r
  | place s k =>
    simp only [lineWords, List.mem_cons, List.mem_nil_iff, or_false, List.not_mem_nil] at hp
    rcases hp with e | e | e <;> subst e
    · rcases hc with e | e <;> subst e <;> decide
    · exact nm_free h.1 hc
    · exact hn k
theorem joinL_mem {S : List Nat} {c : Nat} : ∀ {ps : List (List Nat)}, c ∈ joinL S ps → c ∈ S ∨ ∃ p ∈ ps, c ∈ p
  | [], h => by cases h
  | [p], h => .inr ⟨p, List.mem_singleton.mpr rfl, h⟩
  | p :: q :: r, h => by
    have h' : c ∈ p ++ (S ++ joinL S (q :: r)) := h
    rcases List.mem_append.mp h' with e | e
    · exact .inr ⟨p, List.mem_cons_self .., e⟩
    · rcases List.mem_append.mp e with e | e
      · exact .inl e
      · rcases joinL_mem e with e | ⟨p', hp, hc⟩
        · exact .inl e
        · exact .inr ⟨p', List.mem_cons_of_mem _ hp, hc⟩
theorem lineL_free {f : Fm} (h : FOk f) : 10 ∉ lineL f := fun m => by
  rcases joinL_mem m with e | ⟨p, hp, hc⟩
  · have := List.mem_singleton.mp e
    omega
  · exact lineWords_free h (.inr rfl) p hp hc
theorem lineL_len {f : Fm} (h : FOk f) : (lineL f).length ≤ 200 := by
  cases f with
  | disc r =>
    have := ratL_len h
    show (cDisc ++ ([32] ++ ratL r)).length ≤ 200
    simp only [List.length_append, List.length_singleton, cDisc, List.length_cons, List.length_nil]
    omega
  | game s =>
    have := h.le
    rw [len_tl] at this
    show (cGame ++ ([32] ++ tl s)).length ≤ 200
    simp only [List.length_append, List.length_singleton, cGame, List.length_cons, List.length_nil]
    omega
  | state r =>
    have := ratL_len h
    show (cState ++ ([32] ++ ratL r)).length ≤ 200
    simp only [List.length_append, List.length_singleton, cState, List.length_cons, List.length_nil]
    omega
  | to k r =>
    have h1 := ratL_len h.2
    have h2 := numL_60 h.1
    show (cTo ++ ([32] ++ (numL k ++ ([32] ++ ratL r)))).length ≤ 200
    simp only [List.length_append, List.length_singleton, cTo, List.length_cons, List.length_nil]
    omega
  | place s k =>
    have h1 := h.1.le
    rw [len_tl] at h1
    have h2 := numL_60 h.2
    show (cPlace ++ ([32] ++ (tl s ++ ([32] ++ numL k)))).length ≤ 200
    simp only [List.length_append, List.length_singleton, cPlace, List.length_cons, List.length_nil]
    omega

/-! ### written and read back -/
theorem map_mk_tl : ∀ ws : List (List Nat), (ws.map fun w => (⟨w.toArray⟩ : Str)).map tl = ws
  | [] => rfl
  | w :: r => by
    rw [List.map_cons, List.map_cons, map_mk_tl r]
/-- a text of joined words, split at the sign s -/
theorem split_words {z y : Str} {s : Nat} {ws : List (List Nat)} (ey : tl y = [s]) (hk : y.cps.all (· < 256) = true) (hz : tl z = joinL [s] ws) (hne : ws ≠ []) (hf : ∀ p ∈ ws, s ∉ p) :
    Txt.split z y = ws.map fun w => (⟨w.toArray⟩ : Str) := by
  have e : z = Txt.join y (ws.map fun w => (⟨w.toArray⟩ : Str)) := by
    refine ext_tl ?_
    rw [join_eq, tl_join, map_mk_tl, ey, hz]
  rw [e]
  refine split_join (S := []) ey hk (fun h => hne (List.map_eq_nil_iff.mp h)) fun p hp => ?_
  obtain ⟨w, hw, rfl⟩ := List.mem_map.mp hp
  exact hf w hw
end Bk

/-! Plain mathematics of books: forms, what is checked, what is put together. -/
namespace Bk
open PySem TL

abbrev Row := List (Nat × Rt)
abbrev Gm := List (Rt × Row)
structure Book where
  disc : Rt
  games : List (Str × Gm)
  places : List (Str × Nat)

def toF (t : Nat × Rt) : Fm := .to t.1 t.2
def stF (s : Rt × Row) : List Fm := .state s.1 :: s.2.map toF
def gmF (g : Str × Gm) : List Fm := .game g.1 :: g.2.flatMap stF
def plF (p : Str × Nat) : Fm := .place p.1 p.2
def formsOf (b : Book) : List Fm := .disc b.disc :: (b.games.flatMap gmF ++ b.places.map plF)

/-! ### sums of ratios -/
def mkR (n d : Int) : Rt := (n / (Int.gcd n d : Int), d / (Int.gcd n d : Int))
def radd (a b : Rt) : Rt := mkR (a.1 * b.2 + b.1 * a.2) (a.2 * b.2)
structure Sm (r : Rt) : Prop where
  n : r.1.natAbs < 2 ^ 31
  p : 0 < r.2
  d : r.2 < 2 ^ 31
def isTo : Fm → Bool
  | .to _ _ => true
  | _ => false
def totF : Rt → List Fm → Rt
  | acc, .to _ r :: fs => totF (radd acc r) fs
  | acc, _ => acc
def SmF : Rt → List Fm → Prop
  | acc, .to _ r :: fs => Sm acc ∧ Sm r ∧ SmF (radd acc r) fs
  | _, _ => True
def SmR : Rt → List Rt → Prop
  | acc, r :: rs => Sm acc ∧ Sm r ∧ SmR (radd acc r) rs
  | _, [] => True
/-- no to line stands first -/
def noTo : List Fm → Prop
  | .to _ _ :: _ => False
  | _ => True
theorem totF_stop {acc : Rt} {fs : List Fm} (h : noTo fs) : totF acc fs = acc := by
  cases fs with
  | nil => rfl
  | cons f r => cases f <;> first | rfl | exact h.elim
theorem SmF_stop {acc : Rt} {fs : List Fm} (h : noTo fs) : SmF acc fs := by
  cases fs with
  | nil => trivial
  | cons f r => cases f <;> first | trivial | exact h.elim
theorem totF_row {rest : List Fm} (h : noTo rest) : ∀ (row : Row) (acc : Rt), totF acc (row.map toF ++ rest) = (row.map (·.2)).foldl radd acc
  | [], acc => totF_stop h
  | t :: r, acc => totF_row h r (radd acc t.2)
theorem SmF_row {rest : List Fm} (h : noTo rest) : ∀ (row : Row) (acc : Rt), SmR acc (row.map (·.2)) → SmF acc (row.map toF ++ rest)
  | [], acc, _ => SmF_stop h
  | t :: r, acc, hs => ⟨hs.1, hs.2.1, SmF_row h r (radd acc t.2) hs.2.2⟩

/-! ### books -/
structure RowOk (n : Nat) (row : Row) : Prop where
  len : row.length ≤ 20
  asc : row.Pairwise fun a b => a.1 < b.1
  lt : ∀ t ∈ row, t.1 < n
  ok : ∀ t ∈ row, ROk t.2
  pos : ∀ t ∈ row, 0 < t.2.1
  sum : (row.map (·.2)).foldl radd (0, 1) = (1, 1)
  sm : SmR (0, 1) (row.map (·.2))
structure GmOk (g : Gm) : Prop where
  pos : 1 ≤ g.length
  len : g.length ≤ 20
  rew : ∀ s ∈ g, ROk s.1
  row : ∀ s ∈ g, RowOk g.length s.2
structure BOk (b : Book) : Prop where
  disc : ROk b.disc
  d0 : 0 ≤ b.disc.1
  d1 : b.disc.1 < b.disc.2
  glen : b.games.length ≤ 10
  nd : (b.games.map (·.1)).Nodup
  nm : ∀ g ∈ b.games, NmOk g.1
  gm : ∀ g ∈ b.games, GmOk g.2
  plen : b.places.length ≤ 10
  pl : ∀ p ∈ b.places, ∃ g, (p.1, g) ∈ b.games ∧ p.2 < g.length

/-! ### what stands behind a game line -/
def countS : List Fm → Nat
  | .game _ :: _ => 0
  | .place _ _ :: _ => 0
  | .state _ :: r => countS r + 1
  | .disc _ :: r => countS r
  | .to _ _ :: r => countS r
  | [] => 0
def stops : List Fm → Prop
  | [] => True
  | .game _ :: _ => True
  | .place _ _ :: _ => True
  | _ => False
theorem stops_noTo {fs : List Fm} (h : stops fs) : noTo fs := by
  cases fs with
  | nil => trivial
  | cons f r => cases f <;> first | trivial | exact h.elim
theorem countS_stop {fs : List Fm} (h : stops fs) : countS fs = 0 := by
  cases fs with
  | nil => rfl
  | cons f r => cases f <;> first | rfl | exact h.elim
theorem countS_row {rest : List Fm} : ∀ row : Row, countS (row.map toF ++ rest) = countS rest
  | [] => rfl
  | t :: r => countS_row r
theorem countS_gm {rest : List Fm} : ∀ g : Gm, countS (g.flatMap stF ++ rest) = g.length + countS rest
  | [] => by simp
  | s :: r => by
    rw [List.flatMap_cons, List.append_assoc]
    show countS (s.2.map toF ++ (r.flatMap stF ++ rest)) + 1 = _
    rw [countS_row, countS_gm r, List.length_cons]
    omega
/-- the dict of the first pass -/
def cnts : List Fm → List (Str × Nat)
  | .game s :: r => (s, countS r) :: cnts r
  | .state _ :: r => cnts r
  | .disc _ :: r => cnts r
  | .to _ _ :: r => cnts r
  | .place _ _ :: r => cnts r
  | [] => []
theorem cnts_row {rest : List Fm} : ∀ row : Row, cnts (row.map toF ++ rest) = cnts rest
  | [] => rfl
  | t :: r => cnts_row r
theorem cnts_gm {rest : List Fm} : ∀ g : Gm, cnts (g.flatMap stF ++ rest) = cnts rest
  | [] => by simp
  | s :: r => by
    rw [List.flatMap_cons, List.append_assoc]
    show cnts (s.2.map toF ++ (r.flatMap stF ++ rest)) = _
    rw [cnts_row, cnts_gm r]
theorem cnts_places : ∀ ps : List (Str × Nat), cnts (ps.map plF) = []
  | [] => rfl
  | p :: r => cnts_places r
theorem stops_games {ps : List (Str × Nat)} : ∀ gs : List (Str × Gm), stops (gs.flatMap gmF ++ ps.map plF)
  | [] => by
    cases ps with
    | nil => trivial
    | cons p r => trivial
  | g :: r => trivial
theorem cnts_games {ps : List (Str × Nat)} : ∀ gs : List (Str × Gm), cnts (gs.flatMap gmF ++ ps.map plF) = gs.map fun g => (g.1, g.2.length)
  | [] => cnts_places ps
  | g :: r => by
    rw [List.flatMap_cons, List.append_assoc]
    show (g.1, countS (g.2.flatMap stF ++ (r.flatMap gmF ++ ps.map plF))) :: cnts (g.2.flatMap stF ++ (r.flatMap gmF ++ ps.map plF)) = _
    rw [countS_gm, cnts_gm, cnts_games r, countS_stop (stops_games r), Nat.add_zero]
    rfl
theorem cnts_forms (b : Book) : cnts (formsOf b) = b.games.map fun g => (g.1, g.2.length) := cnts_games b.games

/-! ### the check, line by line -/
structure Ck where
  first : Bool
  prev : Option Fm
  seen : List Str
  size : Option Nat
  pl : Bool
def ckNext (st : Ck) (f : Fm) (rest : List Fm) : Ck :=
  { first := false, prev := some f,
    seen := match f with | .game s => st.seen ++ [s] | _ => st.seen
    size := match f with | .game _ => some (countS rest) | _ => st.size
    pl := match f with | .place _ _ => true | _ => st.pl }
def isState : List Fm → Prop
  | .state _ :: _ => True
  | _ => False
def LOk (cs : List (Str × Nat)) (st : Ck) (rest : List Fm) : Fm → Prop
  | .disc r => st.first = true ∧ 0 ≤ r.1 ∧ r.1 < r.2
  | .game s => st.first = false ∧ s ∉ st.seen ∧ st.pl = false ∧ isState rest
  | .state _ => st.first = false ∧ st.size ≠ none ∧ st.pl = false ∧ SmF (0, 1) rest ∧ totF (0, 1) rest = (1, 1)
  | .to k r => st.first = false ∧ 0 < r.1 ∧ (∃ n, st.size = some n ∧ k < n) ∧ ((∃ q, st.prev = some (.state q)) ∨ ∃ j q, st.prev = some (.to j q) ∧ j < k)
  | .place s k => st.first = false ∧ ∃ n, (s, n) ∈ cs ∧ k < n
def CkOk (cs : List (Str × Nat)) : Ck → List Fm → Prop
  | _, [] => True
  | st, f :: rest => LOk cs st rest f ∧ CkOk cs (ckNext st f rest) rest

section
variable {cs : List (Str × Nat)}
/-- the to lines of a row -/
theorem ck_row {rest : List Fm} {n : Nat} : ∀ (row : Row) (st : Ck), st.first = false → st.size = some n → row.Pairwise (fun a b => a.1 < b.1) → (∀ t ∈ row, t.1 < n) → (∀ t ∈ row, 0 < t.2.1) →
    ((∃ q, st.prev = some (.state q)) ∨ ∃ j q, st.prev = some (.to j q) ∧ ∀ t ∈ row, j < t.1) →
    (∀ p, CkOk cs { st with prev := p } rest) → CkOk cs st (row.map toF ++ rest)
  | [], st, _, _, _, _, _, _, hr => hr st.prev
  | t :: r, st, h1, h2, h3, h4, h5, h6, hr => by
    have hp := List.pairwise_cons.mp h3
    refine ⟨⟨h1, h5 t (List.mem_cons_self ..), ⟨n, h2, h4 t (List.mem_cons_self ..)⟩, ?_⟩, ?_⟩
    · rcases h6 with h | ⟨j, q, e, k⟩
      · exact .inl h
      · exact .inr ⟨j, q, e, k t (List.mem_cons_self ..)⟩
    · refine ck_row r _ rfl h2 hp.2 (fun t ht => h4 t (List.mem_cons_of_mem _ ht)) (fun t ht => h5 t (List.mem_cons_of_mem _ ht)) (.inr ⟨t.1, t.2, rfl, hp.1⟩) fun p => ?_
      have e := hr p
      cases st
      cases h1
      exact e
theorem noTo_gm {rest : List Fm} (h : stops rest) : ∀ g : Gm, noTo (g.flatMap stF ++ rest)
  | [] => stops_noTo h
  | s :: r => trivial
theorem ck_gm {rest : List Fm} {n : Nat} (hst : stops rest) : ∀ (g : Gm) (st : Ck), st.first = false → st.size = some n → st.pl = false → (∀ s ∈ g, RowOk n s.2) →
    (∀ p, CkOk cs { st with prev := p } rest) → CkOk cs st (g.flatMap stF ++ rest)
  | [], st, _, _, _, _, hr => hr st.prev
  | s :: r, st, h1, h2, h3, h4, hr => by
    have hs := h4 s (List.mem_cons_self ..)
    rw [List.flatMap_cons, List.append_assoc]
    refine ⟨⟨h1, by rw [h2]; simp, h3, SmF_row (noTo_gm hst r) _ _ hs.sm, (totF_row (noTo_gm hst r) _ _).trans hs.sum⟩, ?_⟩
    refine ck_row s.2 _ rfl h2 hs.asc hs.lt hs.pos (.inl ⟨s.1, rfl⟩) fun p => ?_
    refine ck_gm hst r _ rfl h2 h3 (fun z hz => h4 z (List.mem_cons_of_mem _ hz)) fun p' => ?_
    have e := hr p'
    cases st
    cases h1
    exact e
theorem ck_places : ∀ (ps : List (Str × Nat)) (st : Ck), st.first = false → (∀ p ∈ ps, ∃ n, (p.1, n) ∈ cs ∧ p.2 < n) → CkOk cs st (ps.map plF)
  | [], _, _, _ => trivial
  | p :: r, st, h1, h => ⟨⟨h1, h p (List.mem_cons_self ..)⟩, ck_places r _ rfl fun q hq => h q (List.mem_cons_of_mem _ hq)⟩
theorem isState_gm {rest : List Fm} {g : Gm} (h : 1 ≤ g.length) : isState (g.flatMap stF ++ rest) := by
  cases g with
  | nil => simp at h
  | cons s r => trivial
theorem ck_games {ps : List (Str × Nat)} (hp : ∀ p ∈ ps, ∃ n, (p.1, n) ∈ cs ∧ p.2 < n) : ∀ (gs : List (Str × Gm)) (st : Ck), st.first = false → st.pl = false → (∀ g ∈ gs, g.1 ∉ st.seen) → (gs.map (·.1)).Nodup → (∀ g ∈ gs, GmOk g.2) →
    CkOk cs st (gs.flatMap gmF ++ ps.map plF)
  | [], st, h1, _, _, _, _ => ck_places ps st h1 hp
  | g :: r, st, h1, h2, h3, h4, h5 => by
    have hg := h5 g (List.mem_cons_self ..)
    have hn := List.nodup_cons.mp h4
    rw [List.flatMap_cons, List.append_assoc]
    refine ⟨⟨h1, h3 g (List.mem_cons_self ..), h2, isState_gm hg.pos⟩, ?_⟩
    have es : countS (g.2.flatMap stF ++ (r.flatMap gmF ++ ps.map plF)) = g.2.length := by
      rw [countS_gm, countS_stop (stops_games r), Nat.add_zero]
    refine ck_gm (n := g.2.length) (stops_games r) g.2 _ rfl (congrArg some es) h2 hg.row fun p => ?_
    refine ck_games hp r _ rfl h2 (fun x hx hm => ?_) hn.2 fun x hx => h5 x (List.mem_cons_of_mem _ hx)
    have hm' : x.1 ∈ st.seen ++ [g.1] := hm
    rcases List.mem_append.mp hm' with e | e
    · exact h3 x (List.mem_cons_of_mem _ hx) e
    · refine hn.1 (List.mem_map.mpr ⟨x, hx, List.mem_singleton.mp e⟩)
end
def ck0 : Ck := ⟨true, none, [], none, false⟩
theorem ck_forms {b : Book} (h : BOk b) : CkOk (cnts (formsOf b)) ck0 (formsOf b) := by
  rw [cnts_forms]
  refine ⟨⟨rfl, h.d0, h.d1⟩, ?_⟩
  refine ck_games (fun p hp => ?_) b.games _ rfl rfl (fun _ _ => by simp [ckNext, ck0]) h.nd h.gm
  obtain ⟨g, hg, hl⟩ := h.pl p hp
  exact ⟨g.length, List.mem_map.mpr ⟨(p.1, g), hg, rfl⟩, hl⟩
theorem cnts_nd {b : Book} (h : BOk b) : ((cnts (formsOf b)).map (·.1)).Nodup := by
  rw [cnts_forms, List.map_map]
  exact h.nd

/-! ### every line has a form -/
theorem fok_forms {b : Book} (h : BOk b) : ∀ f ∈ formsOf b, FOk f := by
  have small : ∀ n : Nat, n ≤ 20 → n < 10 ^ 60 := fun n hn => Nat.lt_of_le_of_lt hn (by decide)
  intro f hf
  rcases List.mem_cons.mp hf with e | hf
  · subst e
    exact h.disc
  · rcases List.mem_append.mp hf with hf | hf
    · obtain ⟨g, hg, hf⟩ := List.mem_flatMap.mp hf
      have G := h.gm g hg
      rcases List.mem_cons.mp hf with e | hf
      · subst e
        exact h.nm g hg
      · obtain ⟨s, hs, hf⟩ := List.mem_flatMap.mp hf
        have R := G.row s hs
        rcases List.mem_cons.mp hf with e | hf
        · subst e
          exact G.rew s hs
        · obtain ⟨t, ht, e⟩ := List.mem_map.mp hf
          subst e
          exact ⟨small _ (Nat.le_trans (Nat.le_of_lt (R.lt t ht)) G.len), R.ok t ht⟩
    · obtain ⟨p, hp, e⟩ := List.mem_map.mp hf
      subst e
      obtain ⟨g, hg, hl⟩ := h.pl p hp
      exact ⟨h.nm _ hg, small _ (Nat.le_trans (Nat.le_of_lt hl) (h.gm _ hg).len)⟩
theorem flat_len {α β : Type} (f : α → List β) (m : Nat) : ∀ l : List α, (∀ x ∈ l, (f x).length ≤ m) → (l.flatMap f).length ≤ l.length * m
  | [], _ => by simp
  | x :: r, h => by
    have h1 := h x (List.mem_cons_self ..)
    have h2 := flat_len f m r fun y hy => h y (List.mem_cons_of_mem _ hy)
    rw [List.flatMap_cons, List.length_append, List.length_cons, Nat.succ_mul]
    omega
theorem len_forms {b : Book} (h : BOk b) : (formsOf b).length ≤ 4300 := by
  have h1 : (b.games.flatMap gmF).length ≤ b.games.length * 421 := flat_len gmF 421 b.games fun g hg => by
    have G := h.gm g hg
    have h2 : (g.2.flatMap stF).length ≤ g.2.length * 21 := flat_len stF 21 g.2 fun s hs => by
      have := (G.row s hs).len
      show (s.2.map toF).length + 1 ≤ 21
      rw [List.length_map]
      omega
    show (g.2.flatMap stF).length + 1 ≤ 421
    have := G.len
    omega
  have h3 := h.glen
  have h4 := h.plen
  show (b.games.flatMap gmF ++ b.places.map plF).length + 1 ≤ 4300
  rw [List.length_append, List.length_map]
  omega

/-! ### put together -/
inductive Asm : List (Str × Gm) → List (Str × Nat) → List Fm → List (Str × Gm) → List (Str × Nat) → Prop where
  | nil {gs ps} : Asm gs ps [] gs ps
  | disc {gs ps r fs g' p'} : Asm gs ps fs g' p' → Asm gs ps (.disc r :: fs) g' p'
  | game {gs ps s fs g' p'} : Asm (gs ++ [(s, [])]) ps fs g' p' → Asm gs ps (.game s :: fs) g' p'
  | state {gs ps s sts r fs g' p'} : Asm (gs ++ [(s, sts ++ [(r, [])])]) ps fs g' p' → Asm (gs ++ [(s, sts)]) ps (.state r :: fs) g' p'
  | to {gs ps s sts r row k q fs g' p'} : Asm (gs ++ [(s, sts ++ [(r, row ++ [(k, q)])])]) ps fs g' p' → Asm (gs ++ [(s, sts ++ [(r, row)])]) ps (.to k q :: fs) g' p'
  | place {gs ps s k fs g' p'} : Asm gs (ps ++ [(s, k)]) fs g' p' → Asm gs ps (.place s k :: fs) g' p'
section
variable {g' : List (Str × Gm)} {p' : List (Str × Nat)}
theorem asm_row {gs : List (Str × Gm)} {ps : List (Str × Nat)} {s : Str} {sts : Gm} {r : Rt} {rest : List Fm} : ∀ (row row0 : Row), Asm (gs ++ [(s, sts ++ [(r, row0 ++ row)])]) ps rest g' p' → Asm (gs ++ [(s, sts ++ [(r, row0)])]) ps (row.map toF ++ rest) g' p'
  | [], row0, h => by
    rw [List.append_nil] at h
    exact h
  | t :: row, row0, h => by
    refine .to (asm_row row _ ?_)
    rw [List.append_assoc]
    exact h
theorem asm_gm {gs : List (Str × Gm)} {ps : List (Str × Nat)} {s : Str} {rest : List Fm} : ∀ (g sts : Gm), Asm (gs ++ [(s, sts ++ g)]) ps rest g' p' → Asm (gs ++ [(s, sts)]) ps (g.flatMap stF ++ rest) g' p'
  | [], sts, h => by
    rw [List.append_nil] at h
    exact h
  | x :: g, sts, h => by
    rw [List.flatMap_cons, List.append_assoc]
    refine .state (asm_row x.2 [] ?_)
    refine asm_gm g _ ?_
    rw [List.append_assoc]
    exact h
theorem asm_places {gs : List (Str × Gm)} : ∀ (ps ps0 : List (Str × Nat)), Asm gs ps0 (ps.map plF) gs (ps0 ++ ps)
  | [], ps0 => by
    rw [List.append_nil]
    exact .nil
  | p :: r, ps0 => by
    refine .place ?_
    have := asm_places (gs := gs) r (ps0 ++ [(p.1, p.2)])
    rw [List.append_assoc] at this
    exact this
theorem asm_games {ps : List (Str × Nat)} : ∀ (gs gs0 : List (Str × Gm)), Asm gs0 [] (gs.flatMap gmF ++ ps.map plF) (gs0 ++ gs) ps
  | [], gs0 => by
    rw [List.append_nil]
    exact asm_places ps []
  | g :: r, gs0 => by
    rw [List.flatMap_cons, List.append_assoc]
    refine .game (asm_gm g.2 [] ?_)
    have := asm_games (ps := ps) r (gs0 ++ [(g.1, g.2)])
    rw [List.append_assoc] at this
    exact this
end
theorem asm_forms (b : Book) : Asm [] [] (formsOf b) b.games b.places := .disc (asm_games b.games [])

def modLast {α : Type} (f : α → α) : List α → List α
  | [] => []
  | [x] => [f x]
  | x :: y :: r => x :: modLast f (y :: r)
theorem modLast_snoc {α : Type} (f : α → α) : ∀ (l : List α) (x : α), modLast f (l ++ [x]) = l ++ [f x]
  | [], _ => rfl
  | [_], _ => rfl
  | a :: b :: r, x => by
    have := modLast_snoc f (b :: r) x
    show a :: modLast f ((b :: r) ++ [x]) = a :: ((b :: r) ++ [f x])
    rw [this]
def asm (s : List (Str × Gm) × List (Str × Nat)) : Fm → List (Str × Gm) × List (Str × Nat)
  | .disc _ => s
  | .game x => (s.1 ++ [(x, [])], s.2)
  | .state r => (modLast (fun g => (g.1, g.2 ++ [(r, [])])) s.1, s.2)
  | .to k q => (modLast (fun g => (g.1, modLast (fun z => (z.1, z.2 ++ [(k, q)])) g.2)) s.1, s.2)
  | .place x k => (s.1, s.2 ++ [(x, k)])
theorem asm_fold {gs : List (Str × Gm)} {ps : List (Str × Nat)} {fs : List Fm} {g' : List (Str × Gm)} {p' : List (Str × Nat)} (h : Asm gs ps fs g' p') : fs.foldl asm (gs, ps) = (g', p') := by
  induction h with
  | nil => rfl
  | disc _ ih => exact ih
  | game _ ih => exact ih
  | @state gs ps s sts r fs g' p' _ ih =>
    rw [List.foldl_cons, ← ih]
    show fs.foldl asm (modLast (fun g => (g.1, g.2 ++ [(r, [])])) (gs ++ [(s, sts)]), ps) = _
    rw [modLast_snoc]
  | @to gs ps s sts r row k q fs g' p' _ ih =>
    rw [List.foldl_cons, ← ih]
    show fs.foldl asm (modLast (fun g => (g.1, modLast (fun z => (z.1, z.2 ++ [(k, q)])) g.2)) (gs ++ [(s, sts ++ [(r, row)])]), ps) = _
    rw [modLast_snoc]
    show fs.foldl asm (gs ++ [(s, modLast (fun z => (z.1, z.2 ++ [(k, q)])) (sts ++ [(r, row)]))], ps) = _
    rw [modLast_snoc]
  | place _ ih => exact ih
theorem forms_inj {a b : Book} (h : formsOf a = formsOf b) : a = b := by
  have h1 := asm_fold (asm_forms a)
  have h2 := asm_fold (asm_forms b)
  rw [h, h2] at h1
  have e1 : a.games = b.games := (congrArg Prod.fst h1).symm
  have e2 : a.places = b.places := (congrArg Prod.snd h1).symm
  have e3 : a.disc = b.disc := by
    have := (List.cons.inj h).1
    exact Fm.disc.inj this
  cases a
  cases b
  cases e1
  cases e2
  cases e3
  rfl

/-! ### different books have different texts -/
theorem intL_inj {i j : Int} (h : intL i = intL j) : i = j := by
  unfold intL at h
  have key : ∀ m n : Nat, 45 :: numL m ≠ numL n := fun m n e => by
    have : 45 ∈ numL n := by
      rw [← e]
      exact List.mem_cons_self ..
    have := digit_of this
    omega
  by_cases hi : i < 0 <;> by_cases hj : j < 0
  · rw [if_pos hi, if_pos hj] at h
    have := numL_inj (List.cons.inj h).2
    omega
  · rw [if_pos hi, if_neg hj] at h
    exact absurd h (key _ _)
  · rw [if_neg hi, if_pos hj] at h
    exact absurd h.symm (key _ _)
  · rw [if_neg hi, if_neg hj] at h
    have := numL_inj h
    omega
theorem joinL_inj {s : Nat} {a b : List (List Nat)} (ha : a ≠ []) (hb : b ≠ []) (fa : ∀ p ∈ a, s ∉ p) (fb : ∀ p ∈ b, s ∉ p) (h : joinL [s] a = joinL [s] b) : a = b := by
  have h1 := spl_join (S := []) ha fa
  have h2 := spl_join (S := []) hb fb
  rw [h, h2] at h1
  exact h1.symm
theorem ratL_inj {a b : Rt} (ha : ROk a) (hb : ROk b) (h : ratL a = ratL b) : a = b := by
  have e := joinL_inj (ratWords_ne a) (ratWords_ne b) ratWords_free ratWords_free h
  have pa := ha.pos
  have pb := hb.pos
  obtain ⟨n, d⟩ := a
  obtain ⟨m, c⟩ := b
  simp only [ratWords] at e pa pb
  by_cases h1 : d = 1 <;> by_cases h2 : c = 1
  · rw [if_pos h1, if_pos h2] at e
    rw [h1, h2, intL_inj (List.cons.inj e).1]
  · rw [if_pos h1, if_neg h2] at e
    cases (List.cons.inj e).2
  · rw [if_neg h1, if_pos h2] at e
    cases (List.cons.inj e).2
  · rw [if_neg h1, if_neg h2] at e
    have e1 := intL_inj (List.cons.inj e).1
    have e2 := numL_inj (List.cons.inj (List.cons.inj e).2).1
    have e3 : d = c := by omega
    rw [e1, e3]
theorem lineWords_ne (f : Fm) : lineWords f ≠ [] := by cases f <;> simp [lineWords]
theorem lineL_inj {f g : Fm} (hf : FOk f) (hg : FOk g) (h : lineL f = lineL g) : f = g := by
  have e := joinL_inj (lineWords_ne f) (lineWords_ne g) (lineWords_free hf (.inl rfl)) (lineWords_free hg (.inl rfl)) h
  cases f <;> cases g <;> simp only [lineWords] at e <;> try (exact absurd (List.cons.inj e).1 (by decide))
  · rw [ratL_inj hf hg (List.cons.inj (List.cons.inj e).2).1]
  · rw [ext_tl (List.cons.inj (List.cons.inj e).2).1]
  · rw [ratL_inj hf hg (List.cons.inj (List.cons.inj e).2).1]
  · have e2 := List.cons.inj (List.cons.inj e).2
    rw [numL_inj e2.1, ratL_inj hf.2 hg.2 (List.cons.inj e2.2).1]
  · have e2 := List.cons.inj (List.cons.inj e).2
    rw [ext_tl e2.1, numL_inj (List.cons.inj e2.2).1]
theorem lines_free {fs : List Fm} (h : ∀ f ∈ fs, FOk f) : ∀ p ∈ fs.map lineL ++ [[]], 10 ∉ p := by
  intro p hp
  rcases List.mem_append.mp hp with e | e
  · obtain ⟨f, hf, rfl⟩ := List.mem_map.mp e
    exact lineL_free (h f hf)
  · rw [List.mem_singleton.mp e]
    simp
theorem map_inj_on {α β : Type} {f : α → β} : ∀ {l m : List α}, (∀ a ∈ l, ∀ b ∈ m, f a = f b → a = b) → l.map f = m.map f → l = m
  | [], [], _, _ => rfl
  | [], _ :: _, _, h => by simp at h
  | _ :: _, [], _, h => by simp at h
  | a :: l, b :: m, k, h => by
    rw [List.map_cons, List.map_cons] at h
    have e := List.cons.inj h
    rw [k a (List.mem_cons_self ..) b (List.mem_cons_self ..) e.1, map_inj_on (fun x hx y hy => k x (List.mem_cons_of_mem _ hx) y (List.mem_cons_of_mem _ hy)) e.2]
theorem textL_inj {fs gs : List Fm} (hf : ∀ f ∈ fs, FOk f) (hg : ∀ f ∈ gs, FOk f) (h : textL fs = textL gs) : fs = gs := by
  have e := joinL_inj (by simp) (by simp) (lines_free hf) (lines_free hg) h
  have e2 := List.append_inj_left' e rfl
  exact map_inj_on (fun a ha b hb => lineL_inj (hf a ha) (hg b hb)) e2
theorem text_inj {a b : Book} (ha : BOk a) (hb : BOk b) (h : textL (formsOf a) = textL (formsOf b)) : a = b := forms_inj (textL_inj (fok_forms ha) (fok_forms hb) h)
/-- line by line -/
theorem textL_flat : ∀ fs : List Fm, textL fs = fs.flatMap fun f => lineL f ++ [10]
  | [] => rfl
  | [f] => by
    show lineL f ++ ([10] ++ []) = (lineL f ++ [10]) ++ []
    simp
  | f :: g :: r => by
    have ih := textL_flat (g :: r)
    show lineL f ++ ([10] ++ textL (g :: r)) = (lineL f ++ [10]) ++ (g :: r).flatMap (fun f => lineL f ++ [10])
    rw [ih, List.append_assoc]
theorem textL_len {fs : List Fm} (h : ∀ f ∈ fs, FOk f) : (textL fs).length ≤ fs.length * 201 := by
  rw [textL_flat]
  refine flat_len _ 201 fs fun f hf => ?_
  have := lineL_len (h f hf)
  rw [List.length_append, List.length_singleton]
  omega
end Bk

/-! Books in the heap: what grows, what data stands where, defs as they are called. -/
namespace Bk
open PySem PySem.Spec PyProof.Rows L2 GxR TL

/-! ### the heap grows -/
/-- from H to H': all but code tables stands as it was; the table at T stays a table -/
structure Ext (T : Addr) (H H' : Hp) : Prop where
  keep : ∀ b o, H b = some o → (∀ ps, o ≠ .tbl ps) → H' b = some o
  tab : TabG H T → TabG H' T
  free : ∀ b, H' b = none → H b = none
section
variable {T : Addr} {H H1 H2 : Hp}
theorem Ext.refl (T : Addr) (H : Hp) : Ext T H H := ⟨fun _ _ h _ => h, fun h => h, fun _ h => h⟩
theorem Ext.trans (a : Ext T H H1) (b : Ext T H1 H2) : Ext T H H2 :=
  ⟨fun c o h n => b.keep c o (a.keep c o h n) n, fun h => b.tab (a.tab h), fun c h => a.free c (b.free c h)⟩
theorem Ext.ofSame (h : Same H H1) : Ext T H H1 := ⟨fun b o e _ => h b o e, fun ⟨ps, e, k⟩ => ⟨ps, h _ _ e, k⟩, fun b e => h.free e⟩
/-- a new thing at p, or another content of what was new -/
theorem Ext.put (a : Ext T H H1) {p : Addr} {o : HO} (hp : H p = none) : Ext T H (upd H1 p o) := by
  refine ⟨fun b u e n => ?_, fun h => ?_, fun b e => ?_⟩
  · rw [upd_ne (ne_of_none e hp)]
    exact a.keep b u e n
  · obtain ⟨ps, e, k⟩ := a.tab h
    obtain ⟨qs, e0, _⟩ := h
    exact ⟨ps, by rw [upd_ne (ne_of_none e0 hp)]; exact e, k⟩
  · by_cases hb : b = p
    · rw [hb]
      exact hp
    · rw [upd_ne hb] at e
      exact a.free b e
theorem Ext.new {p : Addr} {o : HO} (hp : H p = none) : Ext T H (upd H p o) := (Ext.refl T H).put hp
theorem Ext.tabbed (h : Tabbed T H H1) (t : TabG H T) : Ext T H H1 := by
  refine ⟨fun b o e n => ?_, fun _ => h.1, fun b e => ?_⟩
  · by_cases hb : b = T
    · obtain ⟨ps, e2, _⟩ := t
      rw [hb, e2] at e
      exact (n ps (Option.some.inj e).symm).elim
    · rw [h.2 b hb]
      exact e
  · by_cases hb : b = T
    · obtain ⟨ps, e2, _⟩ := h.1
      rw [hb, e2] at e
      cases e
    · rw [h.2 b hb] at e
      exact e
theorem Ext.lst (a : Ext T H H1) {p : Addr} {xs : List V} (h : H p = some (.lst xs)) : H1 p = some (.lst xs) := a.keep _ _ h fun ps z => by cases z
theorem Ext.dk (a : Ext T H H1) {p : Addr} {xs : List (Key × V)} (h : H p = some (.dK xs)) : H1 p = some (.dK xs) := a.keep _ _ h fun ps z => by cases z
theorem Ext.seqL {K : PySem.W.Frag} (a : Ext T H H1) {p : Addr} {xs : List V} (h : SqL K H p xs) : SqL K H1 p xs := by
  rcases h with (h | ⟨o, h⟩) | h
  · exact .inl (.inl (a.keep _ _ h fun ps z => by cases z))
  · exact .inl (.inr ⟨o, a.keep _ _ h fun ps z => by cases z⟩)
  · exact .inr h
theorem Ext.seqT {K : PySem.W.Frag} (a : Ext T H H1) {p : Addr} {xs : List V} (h : SqT K H p xs) : SqT K H1 p xs := by
  rcases h with (h | ⟨o, h⟩) | h
  · exact .inl (.inl (a.keep _ _ h fun ps z => by cases z))
  · exact .inl (.inr ⟨o, a.keep _ _ h fun ps z => by cases z⟩)
  · exact .inr h
end

/-! ### data: ints, texts, tuples of them -/
mutual
inductive Dt (K : PySem.W.Frag) (H : Hp) : V → PyData → Prop
  | int (i : Int) : Dt K H (.int i) (.int i)
  | str (x : Str) : Dt K H (.str x) (.str x)
  | tup {a : Addr} {xs : List V} {ds : List PyData} : SqT K H a xs → DtAll K H xs ds → Dt K H (.ref a) (.tuple ds)
inductive DtAll (K : PySem.W.Frag) (H : Hp) : List V → List PyData → Prop
  | nil : DtAll K H [] []
  | cons {v : V} {vs : List V} {d : PyData} {ds : List PyData} : Dt K H v d → DtAll K H vs ds → DtAll K H (v :: vs) (d :: ds)
end
/-- the tuples stand as they stood -/
def TupX (H H1 : Hp) : Prop := (∀ b xs, H b = some (.tup xs) → H1 b = some (.tup xs)) ∧ ∀ b o xs, H b = some (.frz o (.tup xs)) → H1 b = some (.frz o (.tup xs))
theorem TupX.seqT {K : PySem.W.Frag} {H H1 : Hp} (a : TupX H H1) {p : Addr} {xs : List V} (h : SqT K H p xs) : SqT K H1 p xs := by
  rcases h with (h | ⟨o, h⟩) | h
  · exact .inl (.inl (a.1 _ _ h))
  · exact .inl (.inr ⟨o, a.2 _ _ _ h⟩)
  · exact .inr h
theorem Ext.tupX {T : Addr} {H H1 : Hp} (a : Ext T H H1) : TupX H H1 := ⟨fun b xs h => a.keep _ _ h (fun ps z => by cases z), fun b o xs h => a.keep _ _ h (fun ps z => by cases z)⟩
theorem TupX.trans {H H1 H2 : Hp} (a : TupX H H1) (b : TupX H1 H2) : TupX H H2 := ⟨fun c xs h => b.1 _ _ (a.1 _ _ h), fun c o xs h => b.2 _ _ _ (a.2 _ _ _ h)⟩
theorem TupX.lst {H : Hp} {p : Addr} {xs : List V} {o : HO} (h : H p = some (.lst xs)) : TupX H (upd H p o) :=
  ⟨fun b ys e => by rw [upd_ne (ne_of e h (by intro z; cases z))]; exact e, fun b q ys e => by rw [upd_ne (ne_of e h (by intro z; cases z))]; exact e⟩
theorem TupX.dk {H : Hp} {p : Addr} {xs : List (Key × V)} {o : HO} (h : H p = some (.dK xs)) : TupX H (upd H p o) :=
  ⟨fun b ys e => by rw [upd_ne (ne_of e h (by intro z; cases z))]; exact e, fun b q ys e => by rw [upd_ne (ne_of e h (by intro z; cases z))]; exact e⟩
section
variable {T : Addr} {K : PySem.W.Frag} {H H1 : Hp}
mutual
theorem dp_tx (a : TupX H H1) : ∀ {v : V} {d : PyData}, Dt K H v d → Dt K H1 v d
  | _, _, .int i => .int i
  | _, _, .str x => .str x
  | _, _, .tup h r => .tup (a.seqT h) (dpAll_tx a r)
theorem dpAll_tx (a : TupX H H1) : ∀ {vs : List V} {ds : List PyData}, DtAll K H vs ds → DtAll K H1 vs ds
  | _, _, .nil => .nil
  | _, _, .cons h r => .cons (dp_tx a h) (dpAll_tx a r)
end
mutual
theorem dt_dp : ∀ {v : V} {d : PyData}, Dt K H v d → Dp K H v d
  | _, _, .int i => .int i
  | _, _, .str x => .str x
  | _, _, .tup h r => .tup h (dtAll_dp r)
theorem dtAll_dp : ∀ {vs : List V} {ds : List PyData}, DtAll K H vs ds → DpAll K H vs ds
  | _, _, .nil => .nil
  | _, _, .cons h r => .cons (dt_dp h) (dtAll_dp r)
end
theorem Dt.tx {v : V} {d : PyData} (h : Dt K H v d) (a : TupX H H1) : Dt K H1 v d := dp_tx a h
theorem DtAll.tx {vs : List V} {ds : List PyData} (h : DtAll K H vs ds) (a : TupX H H1) : DtAll K H1 vs ds := dpAll_tx a h
theorem Dt.ext {v : V} {d : PyData} (h : Dt K H v d) (a : Ext T H H1) : Dt K H1 v d := dp_tx a.tupX h
theorem DtAll.ext {vs : List V} {ds : List PyData} (h : DtAll K H vs ds) (a : Ext T H H1) : DtAll K H1 vs ds := dpAll_tx a.tupX h
theorem Dt.int_inv {v : V} {i : Int} (h : Dt K H v (.int i)) : v = .int i := by cases h; rfl
theorem Dt.str_inv {v : V} {x : Str} (h : Dt K H v (.str x)) : v = .str x := by cases h; rfl
theorem Dt.tup_inv {v : V} {ds : List PyData} (h : Dt K H v (.tuple ds)) : ∃ a xs, v = .ref a ∧ SqT K H a xs ∧ DtAll K H xs ds := by
  cases h with
  | tup h r => exact ⟨_, _, rfl, h, r⟩
theorem DtAll.cons_inv {vs : List V} {d : PyData} {ds : List PyData} (h : DtAll K H vs (d :: ds)) : ∃ v r, vs = v :: r ∧ Dt K H v d ∧ DtAll K H r ds := by
  cases h with
  | cons a b => exact ⟨_, _, rfl, a, b⟩
theorem DtAll.nil_inv {vs : List V} (h : DtAll K H vs []) : vs = [] := by
  cases h
  rfl
theorem Dt.two {v : V} {d e : PyData} (h : Dt K H v (.tuple [d, e])) : ∃ a x y, v = .ref a ∧ SqT K H a [x, y] ∧ Dt K H x d ∧ Dt K H y e := by
  obtain ⟨a, xs, rfl, hs, r⟩ := h.tup_inv
  obtain ⟨x, r1, rfl, hx, r⟩ := r.cons_inv
  obtain ⟨y, r2, rfl, hy, r⟩ := r.cons_inv
  have := r.nil_inv
  subst this
  exact ⟨a, x, y, rfl, hs, hx, hy⟩
theorem Dt.three {v : V} {d e f : PyData} (h : Dt K H v (.tuple [d, e, f])) : ∃ a x y z, v = .ref a ∧ SqT K H a [x, y, z] ∧ Dt K H x d ∧ Dt K H y e ∧ Dt K H z f := by
  obtain ⟨a, xs, rfl, hs, r⟩ := h.tup_inv
  obtain ⟨x, r1, rfl, hx, r⟩ := r.cons_inv
  obtain ⟨y, r2, rfl, hy, r⟩ := r.cons_inv
  obtain ⟨z, r3, rfl, hz, r⟩ := r.cons_inv
  have := r.nil_inv
  subst this
  exact ⟨a, x, y, z, rfl, hs, hx, hy, hz⟩
theorem dpAll_length : ∀ {vs : List V} {ds : List PyData}, DtAll K H vs ds → vs.length = ds.length
  | _, _, .nil => rfl
  | _, _, .cons _ r => by rw [List.length_cons, List.length_cons, dpAll_length r]
theorem dpAll_get : ∀ {vs : List V} {ds : List PyData} {i : Nat} {d : PyData}, DtAll K H vs ds → ds[i]? = some d → ∃ v, vs[i]? = some v ∧ Dt K H v d
  | _, _, _, _, .nil, e => by simp at e
  | _, _, 0, _, .cons h _, e => by
    simp at e
    subst e
    exact ⟨_, rfl, h⟩
  | _, _, i + 1, d, .cons _ r, e => by
    obtain ⟨v, h1, h2⟩ := dpAll_get (i := i) (d := d) r (by simpa using e)
    exact ⟨v, by simpa using h1, h2⟩
theorem DtAll.length {vs : List V} {ds : List PyData} (h : DtAll K H vs ds) : vs.length = ds.length := dpAll_length h
theorem DtAll.get {vs : List V} {ds : List PyData} {i : Nat} {d : PyData} (h : DtAll K H vs ds) (e : ds[i]? = some d) : ∃ v, vs[i]? = some v ∧ Dt K H v d := dpAll_get h e
theorem DtAll.get' {vs : List V} {ds : List PyData} {i : Nat} {v : V} (h : DtAll K H vs ds) (e : vs[i]? = some v) : ∃ d, ds[i]? = some d ∧ Dt K H v d := by
  have hl := h.length
  have hi : i < vs.length := (List.getElem?_eq_some_iff.mp e).1
  have hd : ds[i]? = some (ds[i]'(by omega)) := List.getElem?_eq_getElem _
  obtain ⟨v', e', q⟩ := h.get hd
  rw [e] at e'
  cases e'
  exact ⟨_, hd, q⟩
theorem dpAll_append : ∀ {vs ws : List V} {ds es : List PyData}, DtAll K H vs ds → DtAll K H ws es → DtAll K H (vs ++ ws) (ds ++ es)
  | _, _, _, _, .nil, h => h
  | _, _, _, _, .cons a r, h => .cons a (dpAll_append r h)
theorem DtAll.append {vs ws : List V} {ds es : List PyData} (h : DtAll K H vs ds) (h2 : DtAll K H ws es) : DtAll K H (vs ++ ws) (ds ++ es) := dpAll_append h h2
theorem DtAll.snoc {vs : List V} {v : V} {ds : List PyData} {d : PyData} (h : DtAll K H vs ds) (hd : Dt K H v d) : DtAll K H (vs ++ [v]) (ds ++ [d]) := h.append (.cons hd .nil)
theorem dpAll_drop : ∀ {vs : List V} {ds : List PyData} (n : Nat), DtAll K H vs ds → DtAll K H (vs.drop n) (ds.drop n)
  | _, _, 0, h => h
  | _, _, _ + 1, .nil => .nil
  | _, _, n + 1, .cons _ r => dpAll_drop n r
theorem dpAll_take : ∀ {vs : List V} {ds : List PyData} (n : Nat), DtAll K H vs ds → DtAll K H (vs.take n) (ds.take n)
  | _, _, 0, _ => .nil
  | _, _, _ + 1, .nil => .nil
  | _, _, n + 1, .cons a r => .cons a (dpAll_take n r)
theorem DtAll.drop {vs : List V} {ds : List PyData} (n : Nat) (h : DtAll K H vs ds) : DtAll K H (vs.drop n) (ds.drop n) := dpAll_drop n h
theorem DtAll.take {vs : List V} {ds : List PyData} (n : Nat) (h : DtAll K H vs ds) : DtAll K H (vs.take n) (ds.take n) := dpAll_take n h
theorem Dt.mkT {p : Addr} {xs : List V} {ds : List PyData} (h : H p = some (.tup xs)) (r : DtAll K H xs ds) : Dt K H (.ref p) (.tuple ds) := .tup (.inl (.inl h)) r
/-- a new tuple of data -/
theorem Dt.newT {p : Addr} {xs : List V} {ds : List PyData} (hp : H p = none) (r : DtAll K H xs ds) : Dt K (upd H p (.tup xs)) (.ref p) (.tuple ds) := .tup (.inl (.inl upd_same)) (r.ext (Ext.new (T := 0) hp))
end

/-! ### books as data -/
def encR (r : Rt) : PyData := .tuple [.int r.1, .int r.2]
def encT (t : Nat × Rt) : PyData := .tuple [.int t.1, encR t.2]
def encRow (r : Row) : PyData := .tuple (r.map encT)
def encG (g : Gm) : PyData := .tuple [.tuple (g.map fun s => encR s.1), .tuple (g.map fun s => encRow s.2)]
def encNG (g : Str × Gm) : PyData := .tuple [.str g.1, encG g.2]
def encP (p : Str × Nat) : PyData := .tuple [.str p.1, .int p.2]
def encB (b : Book) : PyData := .tuple [encR b.disc, .tuple (b.games.map encNG), .tuple (b.places.map encP)]
def encF : Fm → PyData
  | .disc r => .tuple [.str "discount", encR r]
  | .game s => .tuple [.str "game", .str s]
  | .state r => .tuple [.str "state", encR r]
  | .to k r => .tuple [.str "to", .int k, encR r]
  | .place s k => .tuple [.str "place", .str s, .int k]

/-! ### a def of the text, as callers see it -/
/-- the def x stands in the module, with its statement st -/
structure At (K : PySem.W.Frag) (mg : Str → Option Value) (x : Str) (st : Stmt) : Prop where
  ex : ∃ (f : Addr) (fd : FuncData), Fun K x x st f fd ∧ mg x = some (.ref f)
/-- the def x keeps the promise sp at level k -/
def Ok (P : Program) (w : World) (K : PySem.W.Frag) (mg : Str → Option Value) (base : Heap) (k : Nat) (x : Str) (ps : List Str) (sp : Sp) : Prop :=
  ∃ (f : Addr) (fd : FuncData), mg x = some (.ref f) ∧ PySem.W.keepIn K (.ref f) = true ∧ Binds K fd ps [] ∧ FnOk P w K mg base CX0 k f fd ps sp
theorem pe_own {X : Cx} {k : Nat} {x : Str} {ps : List Str} {sp : Sp} {e : Expr} {es : List Expr} {p pos : Pos} {t : TA} (F : Ok X.prog X.w X.K X.mg X.base k x ps sp) (hr : Room k X.A) (hg : Gl X x) (ha : PA X (e :: es) t)
    (hdb : (x == ("__debug__" : Str)) = false := by decide) (he : starEach (e :: es) X.env = (false, eval e X.env) :: starEach es X.env := by rfl) (hpl : (backTo pos (starEach es X.env)).any (·.1) = false := by rfl) :
    PE X (.Call (.Name x p) (e :: es) [] pos) (tCall sp [] E0 t) := by
  obtain ⟨f, fd, hm, hk, hb, G⟩ := F
  exact pe_call G hr hg hm hk hb .nil pass0 ha hdb he hpl
theorem At.ok {P : Program} {w : World} {K : PySem.W.Frag} {mg : Str → Option Value} {base : Heap} {x : Str} {st : Stmt} {N ps : List Str} {k : Nat} {sp : Sp} (D : At K mg x st) (S : FnScope N ps (defScope st))
    (hbind : ∀ (kV doc pm : Value) (an : Option Addr) (cdv ct : Value) (us : List Value), us.length = ps.length → bindArgs (PySem.W.fnOf x x (defArgs st) (defBody st) (defScope st) .none kV doc pm an cdv ct) ⟨us, []⟩ = pure (ps.zip us))
    (len : ∀ vs H Q E, sp vs H Q E → vs.length = ps.length)
    (hbody : ∀ (f : Addr) (cdv : Value) (A : Around) (outer : List Env) (s : Shared) (H : Hp) (vs : List V) (Q : VK) (E : XK), Room k (A.deeper (envOfC x (defScope st) s.heap.objs.size f cdv)) → sp vs H Q E →
      ∃ t, PSs (cxOf CX0 P w K mg base N x (defScope st) f cdv A outer s H E).nox (defBody st) t ∧ t { nx := fun _ H' => Q .non H', rt := Q } (start N vs) H) : Ok P w K mg base (k + 1) x ps sp := by
  obtain ⟨f, fd, F, hm⟩ := D.ex
  exact ⟨f, fd, hm, F.kp, F.binds hbind, F.ok S len fun cdv A outer s H vs Q E hr h => hbody f cdv A outer s H vs Q E hr h⟩
def top (i : Nat) : Stmt := PySem.Challenge.pw_anycompany_k21_whole_books_come_back.main.body.getD i (.Pass ⟨0, 0, 0, 0⟩)
/-- what the names of the module hold -/
structure Nm (mg : Str → Option Value) (tD tL : Tok) : Prop where
  n_len : mg "len" = none
  n_int : mg "int" = none
  n_abs : mg "abs" = none
  n_range : mg "range" = none
  n_enumerate : mg "enumerate" = none
  n_zip : mg "zip" = none
  n_tuple : mg "tuple" = none
  n_str : mg "str" = none
  n_all : mg "all" = none
  n_sum : mg "sum" = none
  n_isinstance : mg "isinstance" = none
  n_bool : mg "bool" = none
  n_list : mg "list" = none
  gcd : mg "gcd" = some (.builtin "math.gcd")
  mg_DIGITS : mg "DIGITS" = some (.str "0123456789" tD)
  mg_LETTERS : mg "LETTERS" = some (.str "abcdefghijklmnopqrstuvwxyz" tL)
/-- whatever grows, the answer is the data d -/
def Gives (T : Addr) (K : PySem.W.Frag) (H : Hp) (Q : VK) (d : PyData) : Prop := ∀ v H', Ext T H H' → Dt K H' v d → Q v H'
theorem Gives.tup {T : Addr} {K : PySem.W.Frag} {H H1 : Hp} {Q : VK} {xs : List V} {ds : List PyData} (h : Gives T K H Q (.tuple ds)) (a : Ext T H H1) (r : DtAll K H1 xs ds) : ∀ p, H1 p = none → Q (.ref p) (upd H1 p (.tup xs)) := fun p np =>
  h _ _ (a.trans (Ext.new np)) (.newT np r)
theorem Gives.of {T : Addr} {K : PySem.W.Frag} {H H1 : Hp} {Q : VK} {d : PyData} (h : Gives T K H Q d) (a : Ext T H H1) : Gives T K H1 Q d := fun v H' b r => h v H' (a.trans b) r
theorem dp_rt {K : PySem.W.Frag} {H : Hp} (n d : Int) : DtAll K H [.int n, .int d] [.int n, .int d] := .cons (.int n) (.cons (.int d) .nil)
theorem dp_rat {K : PySem.W.Frag} {H : Hp} {v : V} {r : Rt} (h : Dt K H v (encR r)) : ∃ a, v = .ref a ∧ SqT K H a [.int r.1, .int r.2] := by
  obtain ⟨a, x, y, e, hs, hx, hy⟩ := Dt.two h
  rw [hx.int_inv, hy.int_inv] at hs
  exact ⟨a, e, hs⟩
theorem sz2 : 2 ≤ sizeLine := by rw [sizeLine_eq]; decide
theorem sz3 : 3 ≤ sizeLine := by rw [sizeLine_eq]; decide
theorem sz0 : 0 ≤ sizeLine := Nat.zero_le _
theorem lt_line {n : Nat} (h : n ≤ 16000000) : n < sizeLine := by rw [sizeLine_eq]; omega
theorem le_line {n : Nat} (h : n ≤ 16000000) : n ≤ sizeLine := Nat.le_of_lt (lt_line h)
theorem at0 {α : Type} {x : α} {r : List α} : atI (x :: r) 0 = some x := atI_nat (j := 0) rfl
theorem at1 {α : Type} {x y : α} {r : List α} : atI (x :: y :: r) 1 = some y := atI_nat (j := 1) rfl
theorem at2 {α : Type} {x y z : α} {r : List α} : atI (x :: y :: z :: r) 2 = some z := atI_nat (j := 2) rfl
/-- a loop over the signs of a text -/
theorem for_text {z : Str} {g : TG} {tb : TS} {D : Ends} {σ : L2.St} {H : Hp} (Pv : Nat → L2.St → Hp → Prop) (h0 : Pv 0 σ H)
    (hs : ∀ i c σ H, (tl z)[i]? = some c → Pv i σ H → g (.str ⟨#[c]⟩) σ H fun σ2 H2 => tb { D with nx := Pv (i + 1), ct := Pv (i + 1), bk := D.nx } σ2 H2) (hd : ∀ σ H, Pv (tl z).length σ H → D.nx σ H) :
    ∃ W : Nat → Nat → L2.St → Hp → Prop, (∃ m, W 0 m σ H) ∧ ∀ i m σ H, W i m σ H →
      ((Its z).stop i H ∧ D.nx σ H) ∨ ((Its z).go i H ∧ ∃ N : L2.St → Hp → Prop, (∀ σ' H', N σ' H' → ∃ m', m' < m ∧ W (i + 1) m' σ' H') ∧ ∀ x H', (Its z).yld i H x H' → g x σ H' fun σ2 H2 => tb { D with nx := N, ct := N, bk := D.nx } σ2 H2) := by
  have hl : z.cps.size = (tl z).length := by simp [tl]
  refine ⟨fun i m σ H => m = (tl z).length - i ∧ i ≤ (tl z).length ∧ Pv i σ H, ⟨_, rfl, Nat.zero_le _, h0⟩, ?_⟩
  rintro i m σ H ⟨rfl, hi, p⟩
  by_cases hlt : i < (tl z).length
  · refine .inr ⟨(by show i < z.cps.size; omega), Pv (i + 1), fun σ' H' p' => ⟨(tl z).length - (i + 1), by omega, rfl, hlt, p'⟩, fun x H' y => ?_⟩
    obtain ⟨rfl, c, ec, rfl⟩ := y
    exact hs i c σ _ (by simpa [tl] using ec) p
  · have e : i = (tl z).length := by omega
    subst e
    exact .inl ⟨(by show z.cps.size ≤ (tl z).length; omega), hd σ H p⟩
end Bk

namespace Bk
open PySem PySem.Spec PyProof.Rows L2 GxR TL
section
variable {P : Program} {w : World} {K : PySem.W.Frag} {mg : Str → Option Value} {base : Heap} {T0 : Addr} {tD tL : Tok}
/-! ### common_divisor -/
abbrev s_common_divisor : Stmt := top 7
theorem sc_common_divisor : FnScope ["a", "b"] ["a", "b"] (defScope s_common_divisor) := ⟨rfl, rfl, rfl, by decide +kernel, rfl, by decide +kernel, by decide +kernel⟩
def spGcd : Sp := fun vs H Q _ => ∃ a b : Int, vs = [.int a, .int b] ∧ Q (.int (Int.gcd a b : Int)) H
theorem ok_common_divisor (D : At K mg "common_divisor" s_common_divisor) (T : Nm mg tD tL) : Ok P w K mg base 1 "common_divisor" ["a", "b"] spGcd := by
  refine D.ok sc_common_divisor (fun _ _ _ _ _ _ us hl => match us, hl with | [_, _], _ => rfl) (fun vs H Q E h => ?_) (fun f cdv A outer s H vs Q E hr h => ?_)
  · obtain ⟨a, b, rfl, _⟩ := h
    rfl
  · obtain ⟨a, b, rfl, q⟩ := h
    refine ⟨_, pss_one (ps_ret (pe_callBfun cr_gcd (by rfl) T.gcd (pa_cons (pv 0) (pa_cons (pv 1) pa_nil)))), ?_⟩
    exact ⟨_, rfl, _, rfl, a, b, rfl, q⟩
/-! ### make_ratio -/
abbrev s_make_ratio : Stmt := top 8
theorem sc_make_ratio : FnScope ["n", "d", "divisor"] ["n", "d"] (defScope s_make_ratio) := ⟨rfl, rfl, rfl, by decide +kernel, rfl, by decide +kernel, by decide +kernel⟩
def spMake (T0 : Addr) (K : PySem.W.Frag) : Sp := fun vs H Q _ => ∃ n d : Int, vs = [.int n, .int d] ∧ 0 < d ∧ d < 2 ^ 100 ∧ Gives T0 K H Q (encR (mkR n d))
theorem gcd_pos {n d : Int} (h : 0 < d) : 0 < (Int.gcd n d : Int) := by
  have : 0 < Int.gcd n d := Int.gcd_pos_of_ne_zero_right n (by omega)
  omega
theorem gcd_le {n d : Int} (h : 0 < d) : (Int.gcd n d : Int) ≤ d := Int.le_of_dvd h (Int.gcd_dvd_right n d)
theorem ok_make_ratio (D : At K mg "make_ratio" s_make_ratio) (G_common_divisor : Ok P w K mg base 1 "common_divisor" ["a", "b"] spGcd) : Ok P w K mg base 2 "make_ratio" ["n", "d"] (spMake T0 K) := by
  refine D.ok sc_make_ratio (fun _ _ _ _ _ _ us hl => match us, hl with | [_, _], _ => rfl) (fun vs H Q E h => ?_) (fun f cdv A outer s H vs Q E hr h => ?_)
  · obtain ⟨a, b, rfl, _⟩ := h
    rfl
  · obtain ⟨n, d, rfl, hd, hd2, q⟩ := h
    refine ⟨_, (pss_cons (ps_if (pt_cmpR op_eq (pv 1) pe_int (nomark _))
  (pss_one ps_never)
  pss_nil)
  (pss_cons (ps_set (i := 2) sc_make_ratio.nd rfl (Or.inl rfl) (pe_own G_common_divisor (hr.mono (by decide)) (by rfl) (pa_cons (pv 0) (pa_cons (pv 1) pa_nil))))
  (pss_cons (ps_if (pt_cmpR op_lt (pv 1) pe_int (nomark _))
  (pss_one (ps_set (i := 2) sc_make_ratio.nd rfl (Or.inl rfl) (pe_un un_neg (pv 2))))
  pss_nil)
  (pss_one (ps_ret (pe_tup (pa_cons (pe_op op_fdivW (pv 0) (pv 2)) (pa_cons (pe_op op_fdivW (pv 1) (pv 2)) pa_nil)))))))), ?_⟩
    have g1 := gcd_pos (n := n) hd
    have g2 := gcd_le (n := n) hd
    have cd : ∀ i, CDivW i (Int.gcd n d : Int) := fun i => wide_div (b := 100) g1 (by omega) (by decide) (by decide)
    refine ⟨_, rfl, rfl, _, rfl, ite2 (fun e => ?_) (fun e => ?_)⟩
    · have := V.int.inj (of_decide_eq_true e)
      omega
    · refine ⟨_, rfl, _, rfl, n, d, rfl, ?_⟩
      refine ⟨_, rfl, _, _, rfl, rfl, _, rfl, ite2 (fun e => ?_) (fun e => ?_)⟩
      · have := of_decide_eq_true e
        omega
      · exact ⟨_, rfl, _, rfl, _, _, rfl, rfl, cd _, _, rfl, _, rfl, _, _, rfl, rfl, cd _, sz2, q.tup (Ext.refl _ _) (dp_rt _ _)⟩
/-! ### add, compare -/
abbrev s_add : Stmt := top 9
theorem sc_add : FnScope ["a", "b"] ["a", "b"] (defScope s_add) := ⟨rfl, rfl, rfl, by decide +kernel, rfl, by decide +kernel, by decide +kernel⟩
def spAdd (T0 : Addr) (K : PySem.W.Frag) : Sp := fun vs H Q _ => ∃ (v1 v2 : V) (a b : Rt), vs = [v1, v2] ∧ Dt K H v1 (encR a) ∧ Dt K H v2 (encR b) ∧ Sm a ∧ Sm b ∧ Gives T0 K H Q (encR (radd a b))
theorem sm_mul {a b : Int} (h : a.natAbs < 2 ^ 31) : CMul a b := .inl ⟨by omega, by omega⟩
theorem sm_mul' {a b : Int} (h : b.natAbs < 2 ^ 31) : CMul a b := .inr ⟨by omega, by omega⟩
theorem Sm.dn {r : Rt} (h : Sm r) : r.2.natAbs < 2 ^ 31 := by
  have h1 := h.p
  have h2 := h.d
  omega
theorem ok_add (D : At K mg "add" s_add) (G_make_ratio : Ok P w K mg base 2 "make_ratio" ["n", "d"] (spMake T0 K)) : Ok P w K mg base 3 "add" ["a", "b"] (spAdd T0 K) := by
  refine D.ok sc_add (fun _ _ _ _ _ _ us hl => match us, hl with | [_, _], _ => rfl) (fun vs H Q E h => ?_) (fun f cdv A outer s H vs Q E hr h => ?_)
  · obtain ⟨a, b, _, _, rfl, _⟩ := h
    rfl
  · obtain ⟨v1, v2, a, b, rfl, h1, h2, sa, sb, q⟩ := h
    obtain ⟨p1, rfl, t1⟩ := dp_rat h1
    obtain ⟨p2, rfl, t2⟩ := dp_rat h2
    refine ⟨_, (pss_one (ps_ret (pe_own G_make_ratio (hr.mono (by decide)) (by rfl) (pa_cons (pe_op op_add (pe_op op_mul (pe_ix ix_tup (pv 0) pe_int (fun _ _ => rfl)) (pe_ix ix_tup (pv 1) pe_int (fun _ _ => rfl))) (pe_op op_mul (pe_ix ix_tup (pv 1) pe_int (fun _ _ => rfl)) (pe_ix ix_tup (pv 0) pe_int (fun _ _ => rfl)))) (pa_cons (pe_op op_mul (pe_ix ix_tup (pv 0) pe_int (fun _ _ => rfl)) (pe_ix ix_tup (pv 1) pe_int (fun _ _ => rfl))) pa_nil))))), ?_⟩
    have i10 : ∀ {H : Hp}, SqT K H p1 [.int a.1, .int a.2] → True := fun _ => trivial
    refine ⟨_, rfl, p1, _, _, _, rfl, rfl, t1, at0, _, rfl, p2, _, _, _, rfl, rfl, t2, at1, _, _, rfl, rfl, sm_mul' sb.dn, ?_⟩
    refine ⟨_, rfl, p2, _, _, _, rfl, rfl, t2, at0, _, rfl, p1, _, _, _, rfl, rfl, t1, at1, _, _, rfl, rfl, sm_mul' sa.dn, _, _, rfl, rfl, ?_⟩
    refine ⟨_, rfl, p1, _, _, _, rfl, rfl, t1, at1, _, rfl, p2, _, _, _, rfl, rfl, t2, at1, _, _, rfl, rfl, sm_mul' sb.dn, ?_⟩
    refine ⟨_, _, rfl, Int.mul_pos sa.p sb.p, ?_, q⟩
    have h1 : a.2 * b.2 ≤ 2 ^ 31 * 2 ^ 31 := Int.mul_le_mul (Int.le_of_lt sa.d) (Int.le_of_lt sb.d) (Int.le_of_lt sb.p) (by decide)
    exact Int.lt_of_le_of_lt h1 (by decide)
abbrev s_compare : Stmt := top 10
theorem sc_compare : FnScope ["a", "b", "left", "right"] ["a", "b"] (defScope s_compare) := ⟨rfl, rfl, rfl, by decide +kernel, rfl, by decide +kernel, by decide +kernel⟩
def cmpR (a b : Rt) : Int := if a.1 * b.2 < b.1 * a.2 then -1 else if a.1 * b.2 > b.1 * a.2 then 1 else 0
def spCompare (K : PySem.W.Frag) : Sp := fun vs H Q _ => ∃ (v1 v2 : V) (a b : Rt), vs = [v1, v2] ∧ Dt K H v1 (encR a) ∧ Dt K H v2 (encR b) ∧ b.1.natAbs < 2 ^ 31 ∧ b.2.natAbs < 2 ^ 31 ∧ Q (.int (cmpR a b)) H
theorem ok_compare (D : At K mg "compare" s_compare) : Ok P w K mg base 1 "compare" ["a", "b"] (spCompare K) := by
  refine D.ok sc_compare (fun _ _ _ _ _ _ us hl => match us, hl with | [_, _], _ => rfl) (fun vs H Q E h => ?_) (fun f cdv A outer s H vs Q E hr h => ?_)
  · obtain ⟨a, b, _, _, rfl, _⟩ := h
    rfl
  · obtain ⟨v1, v2, a, b, rfl, h1, h2, sa, sb, q⟩ := h
    obtain ⟨p1, rfl, t1⟩ := dp_rat h1
    obtain ⟨p2, rfl, t2⟩ := dp_rat h2
    refine ⟨_, (pss_cons (ps_set (i := 2) sc_compare.nd rfl (Or.inl rfl) (pe_op op_mul (pe_ix ix_tup (pv 0) pe_int (fun _ _ => rfl)) (pe_ix ix_tup (pv 1) pe_int (fun _ _ => rfl))))
  (pss_cons (ps_set (i := 3) sc_compare.nd rfl (Or.inl rfl) (pe_op op_mul (pe_ix ix_tup (pv 1) pe_int (fun _ _ => rfl)) (pe_ix ix_tup (pv 0) pe_int (fun _ _ => rfl))))
  (pss_cons (ps_if (pt_cmpR op_lt (pv 2) (pv 3) (nomark _))
  (pss_one (ps_ret (pe_un un_neg pe_int)))
  pss_nil)
  (pss_cons (ps_if (pt_cmpR op_gt (pv 2) (pv 3) (nomark _))
  (pss_one (ps_ret pe_int))
  pss_nil)
  (pss_one (ps_ret pe_int)))))), ?_⟩
    refine ⟨_, rfl, p1, _, _, _, rfl, rfl, t1, at0, _, rfl, p2, _, _, _, rfl, rfl, t2, at1, _, _, rfl, rfl, sm_mul' sb, ?_⟩
    refine ⟨_, rfl, p2, _, _, _, rfl, rfl, t2, at0, _, rfl, p1, _, _, _, rfl, rfl, t1, at1, _, _, rfl, rfl, sm_mul sa, ?_⟩
    refine ⟨_, rfl, _, rfl, _, _, rfl, rfl, _, rfl, ite2 (fun e => ?_) (fun e => ?_)⟩
    · have e := of_decide_eq_true e
      have z : cmpR a b = -1 := if_pos e
      rw [z] at q
      exact ⟨_, rfl, q⟩
    · have e1 : ¬ a.1 * b.2 < b.1 * a.2 := fun z => e (decide_eq_true z)
      refine ⟨_, rfl, _, rfl, _, _, rfl, rfl, _, rfl, ite2 (fun e => ?_) (fun e => ?_)⟩
      · have e := of_decide_eq_true e
        have z : cmpR a b = 1 := by
          unfold cmpR
          rw [if_neg e1]
          exact if_pos e
        rw [z] at q
        exact q
      · have e2 : ¬ a.1 * b.2 > b.1 * a.2 := fun z => e (decide_eq_true z)
        have z : cmpR a b = 0 := by
          unfold cmpR
          rw [if_neg e1]
          exact if_neg e2
        rw [z] at q
        exact q
end
end Bk

namespace Bk
open PySem PySem.Spec PyProof.Rows L2 GxR TL
section
variable {P : Program} {w : World} {K : PySem.W.Frag} {mg : Str → Option Value} {base : Heap} {T0 : Addr} {tD tL : Tok}
/-! ### read_count -/
abbrev s_read_count : Stmt := top 14
theorem sc_read_count : FnScope ["word", "char"] ["word"] (defScope s_read_count) := ⟨rfl, rfl, rfl, by decide +kernel, rfl, by decide +kernel, by decide +kernel⟩
def spCount : Sp := fun vs H Q _ => ∃ (z : Str) (n : Nat), vs = [.str z] ∧ tl z = numL n ∧ n < 10 ^ 60 ∧ Q (.int (n : Int)) H
theorem tl_zero : tl ("0" : Str) = [48] := by decide +kernel
theorem tl_digits : tl ("0123456789" : Str) = [48, 49, 50, 51, 52, 53, 54, 55, 56, 57] := by decide +kernel
theorem in_digits {c : Nat} (h : 48 ≤ c ∧ c ≤ 57) : c ∈ tl ("0123456789" : Str) := by
  rw [tl_digits]
  obtain ⟨h1, h2⟩ := h
  have : c = 48 ∨ c = 49 ∨ c = 50 ∨ c = 51 ∨ c = 52 ∨ c = 53 ∨ c = 54 ∨ c = 55 ∨ c = 56 ∨ c = 57 := by omega
  rcases this with e | e | e | e | e | e | e | e | e | e <;> subst e <;> decide
theorem ok_read_count (D : At K mg "read_count" s_read_count) (T : Nm mg tD tL) : Ok P w K mg base 1 "read_count" ["word"] spCount := by
  refine D.ok sc_read_count (fun _ _ _ _ _ _ us hl => match us, hl with | [_], _ => rfl) (fun vs H Q E h => ?_) (fun f cdv A outer s H vs Q E hr h => ?_)
  · obtain ⟨z, n, rfl, _⟩ := h
    rfl
  · obtain ⟨z, n, rfl, ez, hn, q⟩ := h
    refine ⟨_, (pss_cons (ps_if (PW.pt (pw_or (pt_cmpR op_lt (pe_callB call_len_str (by rfl) T.n_len PySem.boot_len (pa_cons (pv 0) pa_nil)) pe_int (nomark _)) (pw_or (pt_cmpR op_gt (pe_callB call_len_str (by rfl) T.n_len PySem.boot_len (pa_cons (pv 0) pa_nil)) pe_int (nomark _)) (pw_or1 (PW.pt (pw_and (pt_cmpR op_eq (pe_ix ix_str (pv 0) pe_int (fun _ _ => rfl)) pe_str (nomark _)) (pw_and1 (pt_cmpR op_ne (pv 0) pe_str (nomark _)))))))))
  (pss_one (ps_ret pe_non))
  pss_nil)
  (pss_cons (ps_for PassesOwn.never rfl (pi_str (pv 0)) (pg_name (i := 1) sc_read_count.nd rfl (Or.inl rfl))
  (pss_one (ps_if (pt_cmpR op_notIn_sign (pv 1) (pe_glob (v := .str "0123456789") rfl T.mg_DIGITS ⟨_, rfl⟩) rfl)
  (pss_one (ps_ret pe_non))
  pss_nil)))
  (pss_one (ps_ret (pe_callTy call_int_str (by rfl) T.n_int (by decide +kernel) (pa_cons (pv 0) pa_nil)))))), ?_⟩
    have hl1 : z.length = (numL n).length := by rw [len_tl, ez]
    have hl2 := numL_pos n
    have hl3 := numL_60 hn
    have hz : z.length ≤ sizeLine := le_line (by omega)
    obtain ⟨c, r, ec, kc⟩ := numL_head n
    have loop : ∀ (c0 : Option V), tFor (iStr (tVar 0)) (gName 1) (tIfS (tTest (tOp (fun x y H Q => ∃ (c : Nat) (z : Str), x = .str ⟨#[c]⟩ ∧ y = .str z ∧ Q (.bl (!decide (c ∈ z.cps.toList))) H) (tVar 1) (tC (.str "0123456789")))) (tRet (tC .non)) tNext)
        { nx := tRet (tCB (fun xs H Q => ∃ a n, xs = [.str a] ∧ PySem.intText? a = some n ∧ a.length ≤ 640 ∧ Q (.int n) H) (tCons (tVar 0) tNil)) { nx := fun _ H' => Q .non H', rt := Q }, rt := Q } [some (.str z), c0] H := by
      intro c0
      refine ⟨_, rfl, z, rfl, for_text (z := z) (fun i σ H' => H' = H ∧ ∃ c0, σ = [some (.str z), c0]) ⟨rfl, c0, rfl⟩ ?_ ?_⟩
      · rintro i d σ H' hd ⟨rfl, c0, rfl⟩
        refine ⟨_, rfl, d, _, rfl, rfl, _, rfl, ?_⟩
        have hm : d ∈ numL n := by
          rw [← ez]
          exact List.mem_of_getElem? hd
        refine iteNS (in_digits (digit_of hm)) ⟨rfl, _, rfl⟩
      · rintro σ H' ⟨rfl, c0, rfl⟩
        have e : z = Str.ofString (toString (n : Int)) := ext_tl (ez.trans (tl_num n).symm)
        refine ⟨_, rfl, z, _, rfl, ?_, by omega, q⟩
        rw [e]
        exact int_num (by omega)
    refine ⟨_, rfl, z, rfl, hz, _, _, rfl, rfl, _, rfl, ?_⟩
    refine ite2 (fun e => absurd (of_decide_eq_true e) (by omega)) (fun _ => ?_)
    refine ⟨_, rfl, z, rfl, hz, _, _, rfl, rfl, _, rfl, ?_⟩
    refine ite2 (fun e => absurd (of_decide_eq_true e) (by omega)) (fun _ => ?_)
    have h0 : atI z.cps.toList 0 = some c := by
      show atI (tl z) 0 = some c
      rw [ez, ec]
      exact at0
    refine ⟨_, rfl, z, _, c, rfl, rfl, hz, h0, rfl, _, rfl, ?_⟩
    refine ite2 (fun e => ?_) (fun _ => iteF (loop _))
    have e1 : (⟨#[c]⟩ : Str) = "0" := V.str.inj (of_decide_eq_true e)
    have e2 : c = 48 := by
      have := congrArg tl e1
      rw [tl_zero] at this
      exact (List.cons.inj this).1
    have e3 : z = "0" := by
      refine ext_tl ?_
      rw [tl_zero, ez, ec, (kc e2).2, e2]
    refine ⟨_, rfl, rfl, _, rfl, iteNS (congrArg V.str e3) (loop _)⟩
/-! ### read_integer -/
abbrev s_read_integer : Stmt := top 15
theorem sc_read_integer : FnScope ["word", "count"] ["word"] (defScope s_read_integer) := ⟨rfl, rfl, rfl, by decide +kernel, rfl, by decide +kernel, by decide +kernel⟩
def spInt : Sp := fun vs H Q _ => ∃ (z : Str) (i : Int), vs = [.str z] ∧ tl z = intL i ∧ i.natAbs < 10 ^ 60 ∧ Q (.int i) H
theorem tl_minus : tl ("-" : Str) = [45] := by decide +kernel
theorem tl_cut_one (z : Str) : tl (cutS z none (some 1)) = (tl z).take 1 := by
  show ((tl z).drop (HT.sIx (tl z).length 0 none)).take (HT.sIx (tl z).length (tl z).length (some 1) - HT.sIx (tl z).length 0 none) = _
  rw [HT.sIx_none, show HT.sIx (tl z).length (tl z).length (some 1) = min 1 (tl z).length from HT.sIx_nat _ _ 1]
  cases tl z with
  | nil => rfl
  | cons a r =>
    have : min 1 (a :: r).length - 0 = 1 := by
      rw [List.length_cons]
      omega
    rw [this]
    rfl
theorem tl_cut_rest (z : Str) : tl (cutS z (some 1) none) = (tl z).drop 1 := by
  show ((tl z).drop (HT.sIx (tl z).length 0 (some 1))).take (HT.sIx (tl z).length (tl z).length none - HT.sIx (tl z).length 0 (some 1)) = _
  rw [HT.sIx_none, show HT.sIx (tl z).length 0 (some 1) = min 1 (tl z).length from HT.sIx_nat _ _ 1]
  cases tl z with
  | nil => rfl
  | cons a r =>
    have : min 1 (a :: r).length = 1 := by
      rw [List.length_cons]
      omega
    rw [this]
    refine List.take_of_length_le ?_
    rw [List.length_drop]
    omega
theorem ok_read_integer (D : At K mg "read_integer" s_read_integer) (G_read_count : Ok P w K mg base 1 "read_count" ["word"] spCount) : Ok P w K mg base 2 "read_integer" ["word"] spInt := by
  refine D.ok sc_read_integer (fun _ _ _ _ _ _ us hl => match us, hl with | [_], _ => rfl) (fun vs H Q E h => ?_) (fun f cdv A outer s H vs Q E hr h => ?_)
  · obtain ⟨z, n, rfl, _⟩ := h
    rfl
  · obtain ⟨z, i, rfl, ez, hi, q⟩ := h
    refine ⟨_, (pss_cons (ps_if (pt_cmpR op_ne (pe_slice sl_str (pv 0) po_none (po_some pe_int)) pe_str (nomark _))
  (pss_one (ps_ret (pe_own G_read_count (hr.mono (by decide)) (by rfl) (pa_cons (pv 0) pa_nil))))
  pss_nil)
  (pss_cons (ps_set (i := 1) sc_read_integer.nd rfl (Or.inl rfl) (pe_own G_read_count (hr.mono (by decide)) (by rfl) (pa_cons (pe_slice sl_str (pv 0) (po_some pe_int) po_none) pa_nil)))
  (pss_cons (ps_if (PW.pt (pw_or (pt_cmpR op_isN (pv 1) pe_non (nomark _)) (pw_or1 (pt_cmpR op_eq (pv 1) pe_int (nomark _)))))
  (pss_one (ps_ret pe_non))
  pss_nil)
  (pss_one (ps_ret (pe_un un_neg (pv 1))))))), ?_⟩
    have hz : z.length ≤ sizeLine := le_line (by
      have := intL_len hi
      rw [len_tl, ez]
      omega)
    refine ⟨_, rfl, 1, rfl, z, rfl, hz, rfl, _, rfl, ?_⟩
    by_cases hneg : i < 0
    · have e1 : tl z = 45 :: numL i.natAbs := by
        rw [ez]
        exact if_pos hneg
      have e2 : cutS z none (some 1) = "-" := by
        refine ext_tl ?_
        rw [tl_cut_one, e1, tl_minus]
        rfl
      refine iteNS (congrArg V.str e2) ?_
      refine ⟨_, rfl, 1, rfl, z, rfl, hz, _, i.natAbs, rfl, ?_, hi, ?_⟩
      · rw [tl_cut_rest, e1]
        rfl
      · refine ⟨_, rfl, rfl, _, rfl, ite2 (fun e => ?_) (fun _ => ?_)⟩
        · cases of_decide_eq_true e
        · refine ⟨_, rfl, rfl, _, rfl, ite2 (fun e => ?_) (fun _ => ?_)⟩
          · have := V.int.inj (of_decide_eq_true e)
            omega
          · have e3 : -((i.natAbs : Nat) : Int) = i := by omega
            refine ⟨_, rfl, _, rfl, ?_⟩
            show Q (V.int (-((i.natAbs : Nat) : Int))) H
            rw [e3]
            exact q
    · have e1 : tl z = numL i.natAbs := by
        rw [ez]
        exact if_neg hneg
      refine ite2 (fun _ => ?_) (fun e => ?_)
      · refine ⟨_, rfl, z, i.natAbs, rfl, e1, hi, ?_⟩
        have e3 : ((i.natAbs : Nat) : Int) = i := by omega
        rw [e3]
        exact q
      · exfalso
        refine e ?_
        have : ¬ V.str (cutS z none (some 1)) = V.str "-" := fun x => by
          have := congrArg tl (V.str.inj x)
          rw [tl_cut_one, e1, tl_minus] at this
          obtain ⟨c, r, ec, _⟩ := numL_head i.natAbs
          rw [ec] at this
          have e4 : c = 45 := (List.cons.inj this).1
          have : c ∈ numL i.natAbs := by
            rw [ec]
            exact List.mem_cons_self ..
          have := digit_of this
          omega
        rw [decide_eq_false this]
        rfl
/-! ### read_ratio -/
abbrev s_read_ratio : Stmt := top 16
theorem sc_read_ratio : FnScope ["text", "words", "n", "d"] ["text"] (defScope s_read_ratio) := ⟨rfl, rfl, rfl, by decide +kernel, rfl, by decide +kernel, by decide +kernel⟩
def spRatio (T0 : Addr) (K : PySem.W.Frag) : Sp := fun vs H Q _ => ∃ (z : Str) (r : Rt), vs = [.str z] ∧ tl z = ratL r ∧ ROk r ∧ Gives T0 K H Q (encR r)
theorem tl_slash : tl ("/" : Str) = [47] := by decide +kernel
theorem ok_read_ratio (D : At K mg "read_ratio" s_read_ratio) (T : Nm mg tD tL) (G_read_count : Ok P w K mg base 1 "read_count" ["word"] spCount) (G_read_integer : Ok P w K mg base 2 "read_integer" ["word"] spInt)
    (G_common_divisor : Ok P w K mg base 1 "common_divisor" ["a", "b"] spGcd) : Ok P w K mg base 3 "read_ratio" ["text"] (spRatio T0 K) := by
  refine D.ok sc_read_ratio (fun _ _ _ _ _ _ us hl => match us, hl with | [_], _ => rfl) (fun vs H Q E h => ?_) (fun f cdv A outer s H vs Q E hr h => ?_)
  · obtain ⟨z, n, rfl, _⟩ := h
    rfl
  · obtain ⟨z, r, rfl, ez, hR, q⟩ := h
    refine ⟨_, (pss_cons (ps_set (i := 1) sc_read_ratio.nd rfl (Or.inl rfl) (pe_split (pv 0) pe_str))
  (pss_cons (ps_set (i := 2) sc_read_ratio.nd rfl (Or.inl rfl) (pe_own G_read_integer (hr.mono (by decide)) (by rfl) (pa_cons (pe_ix ix_list (pv 1) pe_int (fun _ _ => rfl)) pa_nil)))
  (pss_cons (ps_if (PW.pt (pw_or (pt_cmpR op_isN (pv 2) pe_non (nomark _)) (pw_or1 (pt_cmpR op_gt (pe_callB call_len_seq (by rfl) T.n_len PySem.boot_len (pa_cons (pv 1) pa_nil)) pe_int (nomark _)))))
  (pss_one (ps_ret pe_non))
  pss_nil)
  (pss_cons (ps_if (pt_cmpR op_eq (pe_callB call_len_seq (by rfl) T.n_len PySem.boot_len (pa_cons (pv 1) pa_nil)) pe_int (nomark _))
  (pss_one (ps_ret (pe_tup (pa_cons (pv 2) (pa_cons pe_int pa_nil)))))
  pss_nil)
  (pss_cons (ps_set (i := 3) sc_read_ratio.nd rfl (Or.inl rfl) (pe_own G_read_count (hr.mono (by decide)) (by rfl) (pa_cons (pe_ix ix_list (pv 1) pe_int (fun _ _ => rfl)) pa_nil)))
  (pss_cons (ps_if (PW.pt (pw_or (pt_cmpR op_isN (pv 3) pe_non (nomark _)) (pw_or (pt_cmpR op_lt (pv 3) pe_int (nomark _)) (pw_or1 (pt_cmpR op_ne (pe_own G_common_divisor (hr.mono (by decide)) (by rfl) (pa_cons (pv 2) (pa_cons (pv 3) pa_nil))) pe_int (nomark _))))))
  (pss_one (ps_ret pe_non))
  pss_nil)
  (pss_one (ps_ret (pe_tup (pa_cons (pv 2) (pa_cons (pv 3) pa_nil))))))))))), ?_⟩
    have hz : z.length ≤ 16000 := by
      have := ratL_len hR
      rw [len_tl, ez]
      omega
    have esp := split_words (z := z) (y := "/") tl_slash (by decide +kernel) ez (ratWords_ne r) ratWords_free
    refine ⟨_, rfl, ⟨_, rfl⟩, z, "/", rfl, rfl, by decide +kernel, by rw [sizeLine_eq]; omega, fun p np => ?_⟩
    rw [esp]
    have s1 : Ext T0 H (upd H p (.lst ((ratWords r).map fun w => V.str ⟨w.toArray⟩))) := Ext.new np
    have hpos := hR.pos
    by_cases h1 : r.2 = 1
    · have ew : ratWords r = [intL r.1] := if_pos h1
      rw [ew] at s1 ⊢
      refine ⟨_, rfl, p, _, _, _, rfl, rfl, SqL.of upd_same, at0, _, r.1, rfl, rfl, hR.n60, ?_⟩
      refine ⟨_, rfl, rfl, _, rfl, ite2 (fun e => by cases of_decide_eq_true e) (fun _ => ?_)⟩
      refine ⟨_, rfl, p, _, rfl, .inl (SqL.of upd_same), _, _, rfl, rfl, _, rfl, ite2 (fun e => absurd (of_decide_eq_true e) (show ¬ (2 : Int) < ((1 : Nat) : Int) by decide)) (fun _ => ?_)⟩
      refine ⟨_, rfl, p, _, rfl, .inl (SqL.of upd_same), rfl, _, rfl, ite2 (fun _ => ?_) (fun e => absurd (decide_eq_true rfl) e)⟩
      refine ⟨_, rfl, sz2, ?_⟩
      have e : encR r = .tuple [.int r.1, .int 1] := by
        unfold encR
        rw [h1]
      rw [e] at q
      exact q.tup s1 (dp_rt _ _)
    · have ew : ratWords r = [intL r.1, numL r.2.natAbs] := if_neg h1
      rw [ew] at s1 ⊢
      refine ⟨_, rfl, p, _, _, _, rfl, rfl, SqL.of upd_same, at0, _, r.1, rfl, rfl, hR.n60, ?_⟩
      refine ⟨_, rfl, rfl, _, rfl, ite2 (fun e => by cases of_decide_eq_true e) (fun _ => ?_)⟩
      refine ⟨_, rfl, p, _, rfl, .inl (SqL.of upd_same), _, _, rfl, rfl, _, rfl, ite2 (fun e => absurd (of_decide_eq_true e) (show ¬ (2 : Int) < ((2 : Nat) : Int) by decide)) (fun _ => ?_)⟩
      refine ⟨_, rfl, p, _, rfl, .inl (SqL.of upd_same), rfl, _, rfl, ite2 (fun e => absurd (of_decide_eq_true e) (show ¬ V.int ((2 : Nat) : Int) = V.int 1 by decide)) (fun _ => ?_)⟩
      refine ⟨_, rfl, p, _, _, _, rfl, rfl, SqL.of upd_same, at1, _, r.2.natAbs, rfl, rfl, hR.d60, ?_⟩
      have e3 : ((r.2.natAbs : Nat) : Int) = r.2 := by omega
      rw [e3]
      refine ⟨_, rfl, rfl, _, rfl, ite2 (fun e => by cases of_decide_eq_true e) (fun _ => ?_)⟩
      refine ⟨_, rfl, _, _, rfl, rfl, _, rfl, ite2 (fun e => absurd (of_decide_eq_true e) (by omega)) (fun _ => ?_)⟩
      refine ⟨_, rfl, _, rfl, _, _, rfl, rfl, _, rfl, iteNS (by rw [hR.low] <;> rfl) ?_⟩
      exact ⟨_, rfl, _, rfl, sz2, q.tup s1 (dp_rt _ _)⟩
end
end Bk

/-! all(test of a sign for the signs of a text), where the test reads a name of the module. -/
namespace Bk
open PySem PySem.Spec PyProof.Rows L2 GxR TL
/-- the test of one sign; the module's names are as mg says -/
def SignTest (X : Cx) (sc : Scope) (x : Str) (elt : Expr) (ok : Nat → Bool) : Prop :=
  ∀ (ce : Env) (B : Around) (F : Value → Shared → Prop) (c : Nat) (t : Tok) (u : Shared) (m : Str → Option Value), ce.scope = sc → ce.globals = mainGlobals → u.heap.Ns mainGlobals X.mg → u.heap.Ns ce.locals m → m x = some (.str ⟨#[c]⟩ t) →
    wpAny (model X.prog X.w) B (eval elt ce) (fun y u' => y = .bool (ok c) ∧ Keeps u u') F u
section
variable {X : Cx} {pins : List (Addr × Obj)} {σ : L2.St} {H : Hp} {s : Shared}
theorem keeps_self (u : Shared) : Keeps u u := ⟨u.heap, u.toks, rfl, fun _ _ e => e⟩
theorem ns_move {h h' : Heap} {m : Str → Option Value} {L : Addr} (hn : h.Ns L m) (k : ∀ o, h.get? L = some o → h'.get? L = some o) : h'.Ns L m := by
  obtain ⟨o, es, ep, e, r⟩ := hn
  exact ⟨o, es, ep, k o e, r⟩
/-- the state of a shared, told by its parts -/
theorem sh_parts (a b : Shared) (h : b.os = a.os) : ({ a with heap := b.heap, gens := b.gens, drawn := b.drawn, toks := b.toks } : Shared) = b := by
  obtain ⟨_, _, _, _, _⟩ := b
  cases h
  rfl
/-- the code object of a generator expression, found in the table or newly made: nothing but the table at P is another -/
theorem code_any {A : Around} {u : Shared} {ce : Env} {c P : Addr} {ps : Array Value} {at' : Pos} {q : Str} {sc : Scope} {M : Model} {E : Value → Shared → Prop} {Post : Value → Shared → Prop} (hcode : ce.code = .ref c) (C : PySem.W.CodeHd u.heap c P)
    (tabP : u.heap.get? P = some { cls := .none, data := .fields ps }) (ht : TriplesOk ps.toList)
    (k : ∀ (code : Value) (g : Heap) (tk : Nat) (more : Array Value), Heap.ExtBut P u.heap g → u.heap.objs.size ≤ g.objs.size → g.get? P = some { cls := .none, data := .fields (ps ++ more) } → TriplesOk (ps ++ more).toList → Post code { u with heap := g, toks := tk }) :
    wpAny M A (genexprCode ce at' q sc) Post E u := by
  cases found : codeAmong at' ps.toList with
  | some cv =>
    refine wpAny_genexprCode_hit hcode (C.code tabP ht) found ?_
    exact k cv _ u.toks #[] (.refl _ _) (Nat.le_refl _) (by rw [Array.append_empty]; exact tabP) (by rw [Array.append_empty]; exact ht)
  | none =>
    refine wpAny_genexprCodeX hcode (C.code tabP ht) (C.tab tabP) found fun c' h' tk grown lo hi now _ there _ => ?_
    obtain ⟨_, _, _, _, _, _, _, _, _, _, _, _, _, _, _, _, _, _, _, trip, _⟩ := now
    exact k _ h' tk _ grown (Nat.le_trans lo (Nat.le_of_lt hi)) there.2 trip
theorem gen_made {c P : Addr} {elt iter : Expr} {x : Str} {px gpos : Pos} {sc : Scope} {ok : Nat → Bool} {te : TE} {k : Nat} {Q' : Value → Shared → Prop} {R : Str → Hp → Prop}
    (hr : Room k X.A) (TB : TabB X.base X.mg c P) (hcode : X.env.code = .ref c) (S : GenS X.env sc x) (hi : PE X iter te) (hel : SignTest X sc x elt ok)
    (hs : ∀ v, genFold iter X.env v = pure v) (I : Inv X pins σ H s) (h : te σ H fun v H1 => ∃ a : Str, v = .str a ∧ TabG H1 P ∧ R a H1)
    (hQ : ∀ a H1 g u, R a H1 → Ready X pins σ H1 P a ok g u → Q' (.ref g) u) :
    wpAny (model X.prog X.w) X.A (eval (.GeneratorExp elt [⟨.Name x px, iter, [], 0⟩] sc gpos) X.env) Q' X.xe s := by
  have deep := hr.dp
  refine wpAny_GeneratorExp_walksQ hr.hd S.co (closure_ok S.free) S.cell S.dot S.loc S.kind (by omega) ?_ hs
  refine thn (hi.run pins s σ H _ I h) ?_
  rintro xv s1 ⟨v, H1, I1, rel, a, rfl, ⟨ps, hP, ht⟩, hR⟩
  have glob1 : s1.heap.Ns mainGlobals X.mg := I1.mod.glob.keeps I1.bk
  obtain ⟨t, rfl⟩ := rel
  refine wpAny_pyIter_str fun o St W hst => ?_
  -- the new iterator at N, the table of the def's code at P
  have tabP : s1.heap.get? P = some { cls := .none, data := .fields ps } := I1.hok P _ hP
  have ltP : P < s1.heap.objs.size := Heap.lt_size tabP
  have tabP' : (s1.heap.push o).get? P = some { cls := .none, data := .fields ps } := Heap.get?_push_of_some _ tabP
  have codeC : PySem.W.CodeHd (s1.heap.push o) c P := TB.code.keeps fun b u e => Heap.get?_push_of_some _ (I1.bk b u e)
  have nolim : (s1.heap.push o).NoLimit := I1.nolimit.push o
  have sizeN : (s1.heap.push o).objs.size = s1.heap.objs.size + 1 := Heap.size_push ..
  refine ⟨nolim, ?_⟩
  refine code_any hcode codeC tabP' ht fun code g tk more grown big tabQ hqs => ?_
  have big : (s1.heap.push o).objs.size ≤ g.objs.size := big
  have grown : Heap.ExtBut P (s1.heap.push o) g := grown
  obtain ⟨bm, ob, b1, b2, b3, b4, b5, b6, b7, b8⟩ := TB.bm
  have up : ∀ b u, b ≠ P → s1.heap.get? b = some u → g.get? b = some u := fun b u hb e => grown b u hb (Heap.get?_push_of_some _ e)
  have statP : cStatics ≠ P := fun e => by
    obtain ⟨_, hn, _⟩ := I1.nolimit
    obtain ⟨o', es, ep, ho, hd, _⟩ := hn
    rw [e, tabP] at ho
    cases ho
    cases hd
  have statLt : cStatics < s1.heap.objs.size := let ⟨_, hn, _⟩ := I1.nolimit; hn.lt
  have mgP : mainGlobals ≠ P := TB.gP
  have globG : g.Ns mainGlobals X.mg := ns_move glob1 fun u e => up _ u mgP e
  refine wpAny_builtinsFor (m := X.mg) (by rw [I1.ok.glob]; exact globG) b1 b2 (up _ _ b4 (I1.bk _ _ b5)) b6 b7 b8 ?_
  refine ⟨s1.heap.objs.size, [s1.heap.objs.size], [s1.heap.objs.size], a.cps.size, SignAt a, St, fun _ => true, fun i y => ∃ cc, a.cps[i]? = some cc ∧ y = .bool (ok cc), rfl, W, ?_, ?_, nolim.extBut grown statP, ?_, ?_, ?_⟩
  · refine (W X.A hr.hd).frame _ _ _ hst fun b hb u e => grown b u (fun z => ?_) e
    have hb' : b = s1.heap.objs.size := List.mem_singleton.mp hb
    exact Nat.ne_of_lt ltP (z.symm.trans hb')
  · intro b hb
    have hb' : b = s1.heap.objs.size := List.mem_singleton.mp hb
    subst hb'
    show s1.heap.objs.size < g.objs.size
    omega
  · intro z
    have hb' : cStatics = s1.heap.objs.size := List.mem_singleton.mp z
    exact Nat.ne_of_lt statLt hb'
  · intro href hkeep
    constructor
    · intro B F i v u m hB hv hn hm hk
      simp only [List.forIn_nil]
      exact wpAny_pure ⟨rfl, keeps_self u⟩
    · intro B F i v u m hB hv hp hn hm hk
      obtain ⟨cc, tt, ec, rfl⟩ := hv
      have globU : u.heap.Ns mainGlobals X.mg := by
        have gl := Heap.lt_size (show g.get? mainGlobals = some _ from globG.choose_spec.choose_spec.choose_spec.1)
        have lt1 := glob1.lt
        refine ns_move globG fun w e => hk _ (List.mem_range.mpr gl) (fun z => ?_) w (hkeep _ _ e)
        have z' : mainGlobals = s1.heap.objs.size := List.mem_singleton.mp z
        exact Nat.ne_of_lt lt1 z'
      exact wpAny_mono (hel _ B F cc tt u m rfl I1.ok.glob globU hn hm) (fun y u' r => ⟨⟨cc, ec, r.1⟩, r.2⟩) fun _ _ e => e
  · intro y h5 tk5 gs bare lt5 sz5 keep5 W5 at5
    simp only [GxR.passing_true, List.length_range] at W5
    refine hQ a H1 y _ hR ⟨_, _, _, _, _, W5.in4_1, at5, ?_, fun s' mv => ?_⟩
    · rintro j q sj Qj Ej ⟨i, hij, cc, hcc, rfl⟩ hQj
      obtain ⟨hj, ej⟩ := List.getElem?_eq_some_iff.mp hij
      rw [List.getElem_range] at ej
      subst ej
      have ecc : a.cps.toList[j]? = some cc := by rw [Array.getElem?_toList]; exact hcc
      have goal : Qj (trF ok a.cps.toList j) sj := hQj
      rw [trF_some ecc] at goal
      exact wpAny_truthy_bool goal
    · have old : ∀ b u, s1.heap.get? b = some u → b ∉ g.objs.size :: [s1.heap.objs.size] := fun b u e hb => by
        have hl := Heap.lt_size e
        simp only [List.mem_cons, List.not_mem_nil, or_false] at hb
        rcases hb with z | z
        · rw [z] at hl
          have hl' : (g.objs.size : Nat) < s1.heap.objs.size := hl
          omega
        · rw [z] at hl
          exact Nat.lt_irrefl _ hl
      have J := inv_tab (more := more) (h' := s'.heap) (g' := s'.gens) (d' := s'.drawn) (t' := s'.toks) I1 hP
        (fun b u hb e => mv.heap b u (old b u e) (keep5 b u (up b u hb e))) (mv.heap P _ (old P _ tabP) (keep5 P _ tabQ)) (AllBare.movedS (I1.bare.push bare) mv)
      rw [sh_parts s1 s' mv.os] at J
      exact ⟨_, ⟨⟨_, upd_same, hqs⟩, fun b hb => upd_ne hb⟩, J⟩
theorem pe_allG {c P : Addr} {elt iter : Expr} {x : Str} {px p pos gpos : Pos} {sc : Scope} {ok : Nat → Bool} {te : TE} {k : Nat}
    (hr : Room k X.A) (hg : Gl X "all") (hm : X.mg "all" = none) (TB : TabB X.base X.mg c P) (hcode : X.env.code = .ref c) (S : GenS X.env sc x) (hi : PE X iter te) (hel : SignTest X sc x elt ok)
    (hs : ∀ v, genFold iter X.env v = pure v)
    (he : starEach [.GeneratorExp elt [⟨.Name x px, iter, [], 0⟩] sc gpos] X.env = (false, eval (.GeneratorExp elt [⟨.Name x px, iter, [], 0⟩] sc gpos) X.env) :: starEach [] X.env := by rfl) :
    PE X (.Call (.Name "all" p) [.GeneratorExp elt [⟨.Name x px, iter, [], 0⟩] sc gpos] [] pos) (tAllS P ok te) := by
  constructor
  intro pins s σ H Q I h
  refine wpAny_Call_Name_kw (ld_blt I hg hm (show bootBuiltins "all" = some (.builtin "all") by decide +kernel) ?_)
  refine PyProof.Rows.callWith_builtin1 ?_ he (by rfl)
  rw [he]
  show wpAny _ _ (spliced (_ :: backTo pos (starEach [] X.env))) _ _ s
  refine Calls.spliced_cons (gen_made (R := fun a H1 => ∀ H2, Tabbed P H1 H2 → Q (.bl (a.cps.toList.all ok)) H2) hr TB hcode S hi hel hs I h ?_)
  rintro a H1 g u hR ⟨fp, wr, G, F, St, W, hst, htr, hI⟩
  refine Calls.spliced_nil (call_all_walkS (W.self 0 _ _ _ hst ⟨g, fp, wr, G, _, F, St, _, rfl, W, hst, htr, fun s' mv => ?_⟩))
  obtain ⟨H2, hT, J⟩ := hI s' mv
  refine ⟨.bl _, H2, J, rfl, ?_⟩
  rw [all_signs a ok]
  exact hR H2 hT
end
end Bk

namespace Bk
open PySem PySem.Spec PyProof.Rows L2 GxR TL
theorem ifT {c : Bool} {A B : Prop} (hc : c = true) (h : A) : if c = true then A else B := by
  rw [if_pos hc]
  exact h
theorem ifF {c : Bool} {A B : Prop} (hc : c = false) (h : B) : if c = true then A else B := by
  rw [hc, if_neg Bool.false_ne_true]
  exact h
section
variable {P : Program} {w : World} {K : PySem.W.Frag} {mg : Str → Option Value} {base : Heap} {T0 c0 : Addr} {tD tL : Tok}
/-! ### is_name -/
abbrev s_is_name : Stmt := top 17
theorem sc_is_name : FnScope ["word"] ["word"] (defScope s_is_name) := ⟨rfl, rfl, rfl, by decide +kernel, rfl, by decide +kernel, by decide +kernel⟩
def spName (T0 : Addr) : Sp := fun vs H Q _ => ∃ z : Str, vs = [.str z] ∧ NmOk z ∧ TabG H T0 ∧ ∀ H', Ext T0 H H' → Q (.bl true) H'
/-- the def whose code object is at c -/
structure AtC (K : PySem.W.Frag) (mg : Str → Option Value) (x : Str) (st : Stmt) (c : Addr) : Prop where
  ex : ∃ (f : Addr) (fd : FuncData), Fun K x x st f fd ∧ mg x = some (.ref f) ∧ fd.code = .ref c
def letterOk (c : Nat) : Bool := decide (c ∈ tl ("abcdefghijklmnopqrstuvwxyz" : Str))
theorem tl_letters : tl ("abcdefghijklmnopqrstuvwxyz" : Str) = (List.range 26).map (· + 97) := by decide +kernel
theorem letter_ok {c : Nat} (h : 97 ≤ c ∧ c ≤ 122) : letterOk c = true := by
  refine decide_eq_true ?_
  rw [tl_letters]
  exact List.mem_map.mpr ⟨c - 97, List.mem_range.mpr (by omega), by omega⟩
theorem test_letter {X : Cx} {sc : Scope} {p1 p2 p3 : Pos} (hm : X.mg "LETTERS" = some (.str "abcdefghijklmnopqrstuvwxyz" tL)) (hk : sc.kind = .function) (h1 : sc.names.lookup ("char" : Str) = some .local) (h2 : sc.names.lookup ("LETTERS" : Str) = some .globalImplicit) :
    SignTest X sc "char" (.Compare (.Name "char" p1) [.In] [.Name "LETTERS" p2] p3) letterOk := by
  intro ce B F c t u m hs hg hG hn hx
  subst hs
  refine wpAny_Compare1 (wpAny_Name (wpAny_loadName_local hk h1 hn hx ?_) (by decide))
  refine Calls.Name_function_global hk h2 (Calls.loadGlobal_global (mg := X.mg) (by rw [hg]; exact hG) hm ?_) (by decide)
  refine PyProof.Rows.in_str ⟨?_, keeps_self _⟩
  rw [PySem.StrLaws.found_one]
  rfl
theorem ok_is_name (D : AtC K mg "is_name" s_is_name c0) (T : Nm mg tD tL) (TB : TabB base mg c0 T0) : Ok P w K mg base 1 "is_name" ["word"] (spName T0) := by
  obtain ⟨f, fd, F, hm, hc⟩ := D.ex
  refine ⟨f, fd, hm, F.kp, F.binds (fun _ _ _ _ _ _ us hl => match us, hl with | [_], _ => rfl), ?_⟩
  obtain ⟨oc, od, kV, doc, pm, an, cdv, ct, osl, rfl, lk, hcd⟩ := F.ex
  refine fn_of lk hcd sc_is_name (fun vs H Q E h => ?_) fun A outer s H vs Q E hr h => ?_
  · obtain ⟨z, rfl, _⟩ := h
    rfl
  · obtain ⟨z, rfl, hz, hT, q⟩ := h
    have hcd2 : cdv = .ref c0 := hc
    refine ⟨_, PSs.nox (pss_cons (ps_if (PW.pt (pw_or (pt_cmpR op_lt (pe_callB call_len_str (by rfl) T.n_len PySem.boot_len (pa_cons (pv 0) pa_nil)) pe_int (nomark _)) (pw_or1 (pt_cmpR op_gt (pe_callB call_len_str (by rfl) T.n_len PySem.boot_len (pa_cons (pv 0) pa_nil)) pe_int (nomark _)))))
  (pss_one (ps_ret pe_bl))
  pss_nil)
  (pss_one (ps_ret (pe_allG hr (by rfl) T.n_all TB hcd2 ⟨rfl, rfl, by decide +kernel, by decide +kernel, by decide +kernel, fun y hy e => absurd e ((show ∀ y ∈ [((".0" : Str), NameKind.local), (("char" : Str), NameKind.local), (("LETTERS" : Str), NameKind.globalImplicit)], y.2 ≠ NameKind.free by decide +kernel) y hy)⟩ (pv 0) (test_letter T.mg_LETTERS rfl (by decide +kernel) (by decide +kernel)) (fun _ => rfl))))), ?_⟩
    have h1 := hz.pos
    have h2 := hz.le
    have hl : z.length ≤ sizeLine := le_line (by omega)
    refine ⟨_, rfl, z, rfl, hl, _, _, rfl, rfl, _, rfl, ite2 (fun e => absurd (of_decide_eq_true e) (by omega)) (fun _ => ?_)⟩
    refine ⟨_, rfl, z, rfl, hl, _, _, rfl, rfl, _, rfl, ite2 (fun e => absurd (of_decide_eq_true e) (by omega)) (fun _ => ?_)⟩
    refine ⟨_, rfl, z, rfl, hT, fun H2 h2 => ?_⟩
    have e : z.cps.toList.all letterOk = true := List.all_eq_true.mpr fun c hc => letter_ok (hz.low c hc)
    show Q (.bl (z.cps.toList.all letterOk)) H2
    rw [e]
    exact q H2 (Ext.tabbed h2 hT)
/-! ### read_line -/
abbrev s_read_line : Stmt := top 18
theorem sc_read_line : FnScope ["line", "words", "value", "target", "state"] ["line"] (defScope s_read_line) := ⟨rfl, rfl, rfl, by decide +kernel, rfl, by decide +kernel, by decide +kernel⟩
def spLine (T0 : Addr) (K : PySem.W.Frag) : Sp := fun vs H Q _ => ∃ (z : Str) (f : Fm), vs = [.str z] ∧ tl z = lineL f ∧ FOk f ∧ TabG H T0 ∧ Gives T0 K H Q (encF f)
theorem tl_blank : tl (" " : Str) = [32] := by decide +kernel
theorem k_disc : (⟨cDisc.toArray⟩ : Str) = "discount" := by decide +kernel
theorem k_game : (⟨cGame.toArray⟩ : Str) = "game" := by decide +kernel
theorem k_state : (⟨cState.toArray⟩ : Str) = "state" := by decide +kernel
theorem k_to : (⟨cTo.toArray⟩ : Str) = "to" := by decide +kernel
theorem k_place : (⟨cPlace.toArray⟩ : Str) = "place" := by decide +kernel
theorem ok_read_line (D : At K mg "read_line" s_read_line) (T : Nm mg tD tL) (G_read_ratio : Ok P w K mg base 3 "read_ratio" ["text"] (spRatio T0 K)) (G_is_name : Ok P w K mg base 1 "is_name" ["word"] (spName T0))
    (G_read_count : Ok P w K mg base 1 "read_count" ["word"] spCount) : Ok P w K mg base 4 "read_line" ["line"] (spLine T0 K) := by
  refine D.ok sc_read_line (fun _ _ _ _ _ _ us hl => match us, hl with | [_], _ => rfl) (fun vs H Q E h => ?_) (fun f cdv A outer s H vs Q E hr h => ?_)
  · obtain ⟨z, n, rfl, _⟩ := h
    rfl
  · obtain ⟨z, fm, rfl, ez, hF, hT, q⟩ := h
    refine ⟨_, (pss_cons (ps_set (i := 1) sc_read_line.nd rfl (Or.inl rfl) (pe_split (pv 0) pe_str))
  (pss_cons (ps_if (PW.pt (pw_and (pt_cmpR op_eq (pe_callB call_len_seq (by rfl) T.n_len PySem.boot_len (pa_cons (pv 1) pa_nil)) pe_int (nomark _)) (pw_and1 (pt_cmpR op_in_seq (pe_ix ix_list (pv 1) pe_int (fun _ _ => rfl)) (pe_tup (pa_cons pe_str (pa_cons pe_str pa_nil))) rfl))))
  (pss_cons (ps_set (i := 2) sc_read_line.nd rfl (Or.inl rfl) (pe_own G_read_ratio (hr.mono (by decide)) (by rfl) (pa_cons (pe_ix ix_list (pv 1) pe_int (fun _ _ => rfl)) pa_nil)))
  (pss_one (ps_ret (pe_ifExp (pt_cmpR op_isN (pv 2) pe_non (nomark _)) pe_non (pe_tup (pa_cons (pe_ix ix_list (pv 1) pe_int (fun _ _ => rfl)) (pa_cons (pv 2) pa_nil)))))))
  pss_nil)
  (pss_cons (ps_if (PW.pt (pw_and (pt_cmpR op_eq (pe_callB call_len_seq (by rfl) T.n_len PySem.boot_len (pa_cons (pv 1) pa_nil)) pe_int (nomark _)) (pw_and (pt_cmpR op_eq (pe_ix ix_list (pv 1) pe_int (fun _ _ => rfl)) pe_str (nomark _)) (pw_and1 (pt_val (pe_own G_is_name (hr.mono (by decide)) (by rfl) (pa_cons (pe_ix ix_list (pv 1) pe_int (fun _ _ => rfl)) pa_nil)))))))
  (pss_one (ps_ret (pe_tup (pa_cons pe_str (pa_cons (pe_ix ix_list (pv 1) pe_int (fun _ _ => rfl)) pa_nil)))))
  pss_nil)
  (pss_cons (ps_if (PW.pt (pw_and (pt_cmpR op_eq (pe_callB call_len_seq (by rfl) T.n_len PySem.boot_len (pa_cons (pv 1) pa_nil)) pe_int (nomark _)) (pw_and1 (pt_cmpR op_eq (pe_ix ix_list (pv 1) pe_int (fun _ _ => rfl)) pe_str (nomark _)))))
  (pss_cons (ps_set (i := 3) sc_read_line.nd rfl (Or.inl rfl) (pe_own G_read_count (hr.mono (by decide)) (by rfl) (pa_cons (pe_ix ix_list (pv 1) pe_int (fun _ _ => rfl)) pa_nil)))
  (pss_cons (ps_set (i := 2) sc_read_line.nd rfl (Or.inl rfl) (pe_own G_read_ratio (hr.mono (by decide)) (by rfl) (pa_cons (pe_ix ix_list (pv 1) pe_int (fun _ _ => rfl)) pa_nil)))
  (pss_one (ps_ret (pe_ifExp (PW.pt (pw_or (pt_cmpR op_isN (pv 3) pe_non (nomark _)) (pw_or1 (pt_cmpR op_isN (pv 2) pe_non (nomark _))))) pe_non (pe_tup (pa_cons pe_str (pa_cons (pv 3) (pa_cons (pv 2) pa_nil)))))))))
  pss_nil)
  (pss_cons (ps_if (PW.pt (pw_and (pt_cmpR op_eq (pe_callB call_len_seq (by rfl) T.n_len PySem.boot_len (pa_cons (pv 1) pa_nil)) pe_int (nomark _)) (pw_and (pt_cmpR op_eq (pe_ix ix_list (pv 1) pe_int (fun _ _ => rfl)) pe_str (nomark _)) (pw_and1 (pt_val (pe_own G_is_name (hr.mono (by decide)) (by rfl) (pa_cons (pe_ix ix_list (pv 1) pe_int (fun _ _ => rfl)) pa_nil)))))))
  (pss_cons (ps_set (i := 4) sc_read_line.nd rfl (Or.inl rfl) (pe_own G_read_count (hr.mono (by decide)) (by rfl) (pa_cons (pe_ix ix_list (pv 1) pe_int (fun _ _ => rfl)) pa_nil)))
  (pss_one (ps_ret (pe_ifExp (pt_cmpR op_isN (pv 4) pe_non (nomark _)) pe_non (pe_tup (pa_cons pe_str (pa_cons (pe_ix ix_list (pv 1) pe_int (fun _ _ => rfl)) (pa_cons (pv 4) pa_nil))))))))
  pss_nil)
  (pss_one (ps_ret pe_non))))))), ?_⟩
    have hz : z.length ≤ 16000 := by
      have := lineL_len hF
      rw [len_tl, ez]
      omega
    have esp := split_words (z := z) (y := " ") tl_blank (by decide +kernel) ez (lineWords_ne fm) (lineWords_free hF (.inl rfl))
    refine ⟨_, rfl, ⟨_, rfl⟩, z, " ", rfl, rfl, by decide +kernel, by rw [sizeLine_eq]; omega, fun p np => ?_⟩
    rw [esp]
    -- discount and state lines alike
    have two : ∀ (x : Str) (r : Rt), ROk r → inV (.str x) [.str "discount", .str "state"] = true → (lineWords fm).map (fun w => (⟨w.toArray⟩ : Str)) = [x, ⟨(ratL r).toArray⟩] → encF fm = .tuple [.str x, encR r] →
        ∀ (t : TS), (tSeq (tIfS (tAnd (tTest (tOp rEq (tCB (fun xs H Q => ∃ p ys, xs = [V.ref p] ∧ (SqL K H p ys ∨ SqT K H p ys) ∧ Q (.int ys.length) H) (tCons (tVar 1) tNil)) (tC (.int 2)))) (tTest (tOp (rIn K false) (tOp (rIxL K) (tVar 1) (tC (.int 0))) (tTup (tCons (tC (.str "discount")) (tCons (tC (.str "state")) tNil))))))
            (tSeq (tAsg (tCall (spRatio T0 K) [] E0 (tCons (tOp (rIxL K) (tVar 1) (tC (.int 1))) tNil)) (gName 2))
              (tRet (tIf (tTest (tOp (fun x y H Q => y = .non ∧ Q (.bl (decide (x = .non))) H) (tVar 2) (tC .non))) (tC .non) (tTup (tCons (tOp (rIxL K) (tVar 1) (tC (.int 0))) (tCons (tVar 2) tNil)))))) tNext) t)
          { nx := fun _ H' => Q .non H', rt := Q } [some (.str z), some (.ref p), none, none, none] (upd H p (.lst (((lineWords fm).map fun w => (⟨w.toArray⟩ : Str)).map V.str))) := by
      intro x r hR hin ew ee t
      rw [ew]
      have e1 : Ext T0 H (upd H p (.lst ([x, ⟨(ratL r).toArray⟩].map V.str))) := Ext.new np
      refine ⟨_, rfl, p, _, rfl, .inl (SqL.of upd_same), rfl, _, rfl, ifT (decide_eq_true rfl) ?_⟩
      refine ⟨_, rfl, p, _, _, _, rfl, rfl, SqL.of upd_same, at0, sz2, fun u nu => ?_⟩
      refine ⟨u, _, rfl, .inr (SqT.of upd_same), rfl, rfl, _, rfl, ifT hin ?_⟩
      have n2 := Ext.new (T := T0) (o := .tup [.str "discount", .str "state"]) nu
      have e2 := e1.trans n2
      have hp2 := n2.lst upd_same
      refine ⟨_, rfl, p, _, _, _, rfl, rfl, SqL.of hp2, at1, _, r, rfl, rfl, hR, fun v H3 x3 d3 => ?_⟩
      obtain ⟨a, _, _, rfl, _⟩ := Dt.two d3
      refine ⟨_, rfl, rfl, _, rfl, ifF (decide_eq_false (by intro z; cases z)) ?_⟩
      refine ⟨_, rfl, p, _, _, _, rfl, rfl, SqL.of (x3.lst hp2), at0, _, rfl, sz2, ?_⟩
      rw [ee] at q
      exact q.tup (e2.trans x3) (.cons (.str _) (.cons d3 .nil))
    cases fm with
    | disc r => exact two "discount" r hF (by decide +kernel) (by show [(⟨cDisc.toArray⟩ : Str), _] = _; rw [k_disc]) rfl _
    | state r => exact two "state" r hF (by decide +kernel) (by show [(⟨cState.toArray⟩ : Str), _] = _; rw [k_state]) rfl _
    | game x =>
      have ew : (lineWords (.game x)).map (fun w => (⟨w.toArray⟩ : Str)) = ([("game" : Str), x] : List Str) := by
        show [(⟨cGame.toArray⟩ : Str), ⟨(tl x).toArray⟩] = _
        rw [k_game, mk_tl]
      rw [ew]
      have e1 : Ext T0 H (upd H p (.lst (([("game" : Str), x] : List Str).map V.str))) := Ext.new np
      refine ⟨_, rfl, p, _, rfl, .inl (SqL.of upd_same), rfl, _, rfl, ifT (decide_eq_true rfl) ?_⟩
      refine ⟨_, rfl, p, _, _, _, rfl, rfl, SqL.of upd_same, at0, sz2, fun u nu => ?_⟩
      refine ⟨u, _, rfl, .inr (SqT.of upd_same), rfl, rfl, _, rfl, ifF (by decide +kernel) ?_⟩
      have n2 := Ext.new (T := T0) (o := .tup [.str "discount", .str "state"]) nu
      have e2 := e1.trans n2
      have hp2 := n2.lst upd_same
      refine ⟨_, rfl, p, _, rfl, .inl (SqL.of hp2), rfl, _, rfl, ifT (decide_eq_true rfl) ?_⟩
      refine ⟨_, rfl, p, _, _, _, rfl, rfl, SqL.of hp2, at0, rfl, _, rfl, ifT (decide_eq_true rfl) ?_⟩
      refine ⟨_, rfl, p, _, _, _, rfl, rfl, SqL.of hp2, at1, x, rfl, hF, e2.tab hT, fun H3 x3 => ⟨true, rfl, ifT rfl ?_⟩⟩
      refine ⟨_, rfl, p, _, _, _, rfl, rfl, SqL.of (x3.lst hp2), at1, sz2, ?_⟩
      exact q.tup (e2.trans x3) (.cons (.str _) (.cons (.str _) .nil))
    | to k r =>
      have ew : (lineWords (.to k r)).map (fun w => (⟨w.toArray⟩ : Str)) = ([("to" : Str), ⟨(numL k).toArray⟩, ⟨(ratL r).toArray⟩] : List Str) := by
        show [(⟨cTo.toArray⟩ : Str), _, _] = _
        rw [k_to]
      rw [ew]
      have e1 : Ext T0 H (upd H p (.lst (([("to" : Str), ⟨(numL k).toArray⟩, ⟨(ratL r).toArray⟩] : List Str).map V.str))) := Ext.new np
      refine ⟨_, rfl, p, _, rfl, .inl (SqL.of upd_same), rfl, _, rfl, ifF (decide_eq_false (show ¬ V.int ((3 : Nat) : Int) = V.int 2 by decide)) (ifF rfl ?_)⟩
      refine ⟨_, rfl, p, _, rfl, .inl (SqL.of upd_same), rfl, _, rfl, ifF (decide_eq_false (show ¬ V.int ((3 : Nat) : Int) = V.int 2 by decide)) (ifF rfl ?_)⟩
      refine ⟨_, rfl, p, _, rfl, .inl (SqL.of upd_same), rfl, _, rfl, ifT (decide_eq_true rfl) ?_⟩
      refine ⟨_, rfl, p, _, _, _, rfl, rfl, SqL.of upd_same, at0, rfl, _, rfl, ifT (decide_eq_true rfl) ?_⟩
      refine ⟨_, rfl, p, _, _, _, rfl, rfl, SqL.of upd_same, at1, _, k, rfl, rfl, hF.1, ?_⟩
      refine ⟨_, rfl, p, _, _, _, rfl, rfl, SqL.of upd_same, at2, _, r, rfl, rfl, hF.2, fun v H3 x3 d3 => ?_⟩
      obtain ⟨a, _, _, rfl, _⟩ := Dt.two d3
      refine ⟨_, rfl, rfl, _, rfl, ifF (decide_eq_false (by intro z; cases z)) ?_⟩
      refine ⟨_, rfl, rfl, _, rfl, ifF (decide_eq_false (by intro z; cases z)) ?_⟩
      refine ⟨_, rfl, _, rfl, sz3, ?_⟩
      exact q.tup (e1.trans x3) (.cons (.str _) (.cons (.int _) (.cons d3 .nil)))
    | place x k =>
      have ew : (lineWords (.place x k)).map (fun w => (⟨w.toArray⟩ : Str)) = ([("place" : Str), x, ⟨(numL k).toArray⟩] : List Str) := by
        show [(⟨cPlace.toArray⟩ : Str), ⟨(tl x).toArray⟩, _] = _
        rw [k_place, mk_tl]
      rw [ew]
      have e1 : Ext T0 H (upd H p (.lst (([("place" : Str), x, ⟨(numL k).toArray⟩] : List Str).map V.str))) := Ext.new np
      refine ⟨_, rfl, p, _, rfl, .inl (SqL.of upd_same), rfl, _, rfl, ifF (decide_eq_false (show ¬ V.int ((3 : Nat) : Int) = V.int 2 by decide)) (ifF rfl ?_)⟩
      refine ⟨_, rfl, p, _, rfl, .inl (SqL.of upd_same), rfl, _, rfl, ifF (decide_eq_false (show ¬ V.int ((3 : Nat) : Int) = V.int 2 by decide)) (ifF rfl ?_)⟩
      refine ⟨_, rfl, p, _, rfl, .inl (SqL.of upd_same), rfl, _, rfl, ifT (decide_eq_true rfl) ?_⟩
      refine ⟨_, rfl, p, _, _, _, rfl, rfl, SqL.of upd_same, at0, rfl, _, rfl, ifF (by decide +kernel) ?_⟩
      refine ⟨_, rfl, p, _, rfl, .inl (SqL.of upd_same), rfl, _, rfl, ifT (decide_eq_true rfl) ?_⟩
      refine ⟨_, rfl, p, _, _, _, rfl, rfl, SqL.of upd_same, at0, rfl, _, rfl, ifT (decide_eq_true rfl) ?_⟩
      refine ⟨_, rfl, p, _, _, _, rfl, rfl, SqL.of upd_same, at1, x, rfl, hF.1, e1.tab hT, fun H3 x3 => ⟨true, rfl, ifT rfl ?_⟩⟩
      have hp2 := x3.lst (p := p) upd_same
      refine ⟨_, rfl, p, _, _, _, rfl, rfl, SqL.of hp2, at2, _, k, rfl, rfl, hF.2, ?_⟩
      refine ⟨_, rfl, rfl, _, rfl, ifF (decide_eq_false (by intro z; cases z)) ?_⟩
      refine ⟨_, rfl, p, _, _, _, rfl, rfl, SqL.of hp2, at1, _, rfl, sz3, ?_⟩
      exact q.tup (e1.trans x3) (.cons (.str _) (.cons (.str _) (.cons (.int _) .nil)))
end
end Bk

/-! Lists of forms in the heap; loops over enumerate. -/
namespace Bk
open PySem PySem.Spec PyProof.Rows L2 GxR TL
theorem cut_drop (xs : List V) (k : Nat) : cutV xs (some (k : Int)) none = xs.drop k := by
  unfold cutV
  rw [show HT.sIx xs.length 0 (some (k : Int)) = min k xs.length from HT.sIx_nat _ _ k, HT.sIx_none]
  by_cases h : k ≤ xs.length
  · rw [Nat.min_eq_left h]
    refine List.take_of_length_le ?_
    rw [List.length_drop]
    omega
  · rw [Nat.min_eq_right (by omega)]
    rw [List.drop_of_length_le (Nat.le_refl _), List.drop_of_length_le (by omega), List.take_nil]
theorem for_enum {K : PySem.W.Frag} {a : Addr} {xs : List V} {g : TG} {tb : TS} {D : Ends} {σ : L2.St} {H : Hp} (Pv : Nat → L2.St → Hp → Prop) (h0 : Pv 0 σ H) (hl : ∀ i σ H, i ≤ xs.length → Pv i σ H → SqL K H a xs)
    (hs : ∀ (i : Nat) (x : V) (p : Addr) (σ : L2.St) (H : Hp), xs[i]? = some x → Pv i σ H → H p = none → g (.ref p) σ (upd H p (.tup [.int (i : Nat), x])) fun σ2 H2 => tb { D with nx := Pv (i + 1), ct := Pv (i + 1), bk := D.nx } σ2 H2) (hd : ∀ σ H, Pv xs.length σ H → D.nx σ H) :
    ∃ W : Nat → Nat → L2.St → Hp → Prop, (∃ m, W 0 m σ H) ∧ ∀ i m σ H, W i m σ H →
      ((Ite K a).stop i H ∧ D.nx σ H) ∨ ((Ite K a).go i H ∧ ∃ N : L2.St → Hp → Prop, (∀ σ' H', N σ' H' → ∃ m', m' < m ∧ W (i + 1) m' σ' H') ∧ ∀ x H', (Ite K a).yld i H x H' → g x σ H' fun σ2 H2 => tb { D with nx := N, ct := N, bk := D.nx } σ2 H2) := by
  refine ⟨fun i m σ H => m + i = xs.length ∧ Pv i σ H, ⟨xs.length, rfl, h0⟩, fun i m σ H ⟨left, held⟩ => ?_⟩
  have seq := hl i σ H (by omega) held
  cases m with
  | zero =>
    have done : i = xs.length := by omega
    rw [done] at held
    exact .inl ⟨⟨xs, seq, by omega⟩, hd σ H held⟩
  | succ m =>
    have more : i < xs.length := by omega
    refine .inr ⟨⟨xs, xs[i], seq, List.getElem?_eq_getElem more⟩, Pv (i + 1), fun _ _ next => ⟨m, by omega, by omega, next⟩, ?_⟩
    rintro _ _ ⟨T, z, rfl, fresh, rfl, item⟩
    exact hs i z T σ H (item xs seq) held fresh

/-! ### forms -/
def tagF : Fm → Str
  | .disc _ => "discount"
  | .game _ => "game"
  | .state _ => "state"
  | .to _ _ => "to"
  | .place _ _ => "place"
section
variable {K : PySem.W.Frag} {H : Hp}
theorem dt_tag {v : V} {f : Fm} (h : Dt K H v (encF f)) : ∃ a r, v = .ref a ∧ SqT K H a (.str (tagF f) :: r) := by
  cases f with
  | disc r =>
    obtain ⟨a, x, y, rfl, s, hx, _⟩ := Dt.two h
    rw [hx.str_inv] at s
    exact ⟨a, _, rfl, s⟩
  | game x =>
    obtain ⟨a, x, y, rfl, s, hx, _⟩ := Dt.two h
    rw [hx.str_inv] at s
    exact ⟨a, _, rfl, s⟩
  | state r =>
    obtain ⟨a, x, y, rfl, s, hx, _⟩ := Dt.two h
    rw [hx.str_inv] at s
    exact ⟨a, _, rfl, s⟩
  | to k r =>
    obtain ⟨a, x, y, z, rfl, s, hx, _⟩ := Dt.three h
    rw [hx.str_inv] at s
    exact ⟨a, _, rfl, s⟩
  | place x k =>
    obtain ⟨a, x, y, z, rfl, s, hx, _⟩ := Dt.three h
    rw [hx.str_inv] at s
    exact ⟨a, _, rfl, s⟩
theorem dt_disc {v : V} {r : Rt} (h : Dt K H v (encF (.disc r))) : ∃ a y, v = .ref a ∧ SqT K H a [.str "discount", y] ∧ Dt K H y (encR r) := by
  obtain ⟨a, x, y, rfl, s, hx, hy⟩ := Dt.two h
  rw [hx.str_inv] at s
  exact ⟨a, y, rfl, s, hy⟩
theorem dt_state {v : V} {r : Rt} (h : Dt K H v (encF (.state r))) : ∃ a y, v = .ref a ∧ SqT K H a [.str "state", y] ∧ Dt K H y (encR r) := by
  obtain ⟨a, x, y, rfl, s, hx, hy⟩ := Dt.two h
  rw [hx.str_inv] at s
  exact ⟨a, y, rfl, s, hy⟩
theorem dt_game {v : V} {x : Str} (h : Dt K H v (encF (.game x))) : ∃ a, v = .ref a ∧ SqT K H a [.str "game", .str x] := by
  obtain ⟨a, z, y, rfl, s, hx, hy⟩ := Dt.two h
  rw [hx.str_inv, hy.str_inv] at s
  exact ⟨a, rfl, s⟩
theorem dt_to {v : V} {k : Nat} {r : Rt} (h : Dt K H v (encF (.to k r))) : ∃ a y, v = .ref a ∧ SqT K H a [.str "to", .int k, y] ∧ Dt K H y (encR r) := by
  obtain ⟨a, x, y, z, rfl, s, hx, hy, hz⟩ := Dt.three h
  rw [hx.str_inv, hy.int_inv] at s
  exact ⟨a, z, rfl, s, hz⟩
theorem dt_place {v : V} {x : Str} {k : Nat} (h : Dt K H v (encF (.place x k))) : ∃ a, v = .ref a ∧ SqT K H a [.str "place", .str x, .int k] := by
  obtain ⟨a, z, y, u, rfl, s, hx, hy, hz⟩ := Dt.three h
  rw [hx.str_inv, hy.str_inv, hz.int_inv] at s
  exact ⟨a, rfl, s⟩
end
/-- a list of forms, to be read -/
structure Forms (K : PySem.W.Frag) (H : Hp) (l : Addr) (vs : List V) (fs : List Fm) : Prop where
  seq : SqL K H l vs
  all : DtAll K H vs (fs.map encF)
section
variable {K : PySem.W.Frag} {H H1 : Hp} {T : Addr} {l : Addr} {vs : List V} {fs : List Fm}
theorem Forms.ext (h : Forms K H l vs fs) (a : Ext T H H1) : Forms K H1 l vs fs := ⟨a.seqL h.seq, h.all.ext a⟩
theorem Forms.len (h : Forms K H l vs fs) : vs.length = fs.length := by
  have := h.all.length
  rw [List.length_map] at this
  exact this
theorem Forms.at (h : Forms K H l vs fs) {i : Nat} {f : Fm} (e : fs[i]? = some f) : ∃ v, vs[i]? = some v ∧ Dt K H v (encF f) := by
  refine h.all.get ?_
  rw [List.getElem?_map, e]
  rfl
theorem Forms.at' (h : Forms K H l vs fs) {i : Nat} {v : V} (e : vs[i]? = some v) : ∃ f, fs[i]? = some f ∧ Dt K H v (encF f) := by
  obtain ⟨d, e1, q⟩ := h.all.get' e
  rw [List.getElem?_map] at e1
  cases e2 : fs[i]? with
  | none =>
    rw [e2] at e1
    cases e1
  | some f =>
    rw [e2] at e1
    cases e1
    exact ⟨f, rfl, q⟩
end
theorem drop_at {α : Type} {l : List α} {i : Nat} {x : α} (h : l[i]? = some x) : l.drop i = x :: l.drop (i + 1) := by
  obtain ⟨hi, e⟩ := List.getElem?_eq_some_iff.mp h
  rw [List.drop_eq_getElem_cons hi, e]
theorem take_at {α : Type} {l : List α} {i : Nat} {x : α} (h : l[i]? = some x) : l.take (i + 1) = l.take i ++ [x] := by
  rw [List.take_add_one, h]
  rfl
end Bk

namespace Bk
open PySem PySem.Spec PyProof.Rows L2 GxR TL
section
variable {P : Program} {w : World} {K : PySem.W.Frag} {mg : Str → Option Value} {base : Heap} {T0 c0 : Addr} {tD tL : Tok}
/-! ### count_states -/
abbrev s_count_states : Stmt := top 20
theorem sc_count_states : FnScope ["forms", "at", "count", "form"] ["forms", "at"] (defScope s_count_states) := ⟨rfl, rfl, rfl, by decide +kernel, rfl, by decide +kernel, by decide +kernel⟩
def spCountS (T0 : Addr) (K : PySem.W.Frag) : Sp := fun us H Q _ => ∃ (l : Addr) (j : Nat) (vs : List V) (fs : List Fm), us = [.ref l, .int j] ∧ Forms K H l vs fs ∧ ∀ H', Ext T0 H H' → Q (.int (countS (fs.drop (j + 1)) : Nat)) H'
theorem ok_count_states (D : At K mg "count_states" s_count_states) : Ok P w K mg base 1 "count_states" ["forms", "at"] (spCountS T0 K) := by
  refine D.ok sc_count_states (fun _ _ _ _ _ _ us hl => match us, hl with | [_, _], _ => rfl) (fun vs H Q E h => ?_) (fun f cdv A outer s H us Q E hr h => ?_)
  · obtain ⟨_, _, _, _, rfl, _⟩ := h
    rfl
  · obtain ⟨l, j, vs, fs, rfl, hF, q⟩ := h
    refine ⟨_, (pss_cons (ps_set (i := 2) sc_count_states.nd rfl (Or.inl rfl) pe_int)
  (pss_cons (ps_for PassesOwn.never rfl (pi_list (pe_slice sl_list (pv 0) (po_some (pe_op op_add (pv 1) pe_int)) po_none)) (pg_name (i := 3) sc_count_states.nd rfl (Or.inl rfl))
  (pss_cons (ps_if (pt_cmpR op_in_seq (pe_ix ix_tup (pv 3) pe_int (fun _ _ => rfl)) (pe_tup (pa_cons pe_str (pa_cons pe_str pa_nil))) rfl)
  (pss_one ps_break)
  pss_nil)
  (pss_one (ps_if (pt_cmpR op_eq (pe_ix ix_tup (pv 3) pe_int (fun _ _ => rfl)) pe_str (nomark _))
  (pss_one (ps_aug (i := 2) sc_count_states.nd rfl (Or.inl rfl) pe_int ip_add))
  pss_nil))))
  (pss_one (ps_ret (pv 2))))), ?_⟩
    refine ⟨_, rfl, _, rfl, _, _, rfl, rfl, _, rfl, l, vs, rfl, hF.seq, fun p np => ?_⟩
    rw [show ((j : Int) + 1) = ((j + 1 : Nat) : Int) by omega, cut_drop]
    have e1 : Ext T0 H (upd H p (.lst (vs.drop (j + 1)))) := Ext.new np
    refine ⟨p, rfl, ⟨_, SqL.of upd_same⟩, for_list (K := K) (a := p) (xs := vs.drop (j + 1)) (fun i σ H' => ∃ (c : Nat) (y : Option V), σ = [some (.ref l), some (.int j), some (.int c), y] ∧ Ext T0 H H' ∧ H' p = some (.lst (vs.drop (j + 1))) ∧ c + countS (fs.drop (j + 1 + i)) = countS (fs.drop (j + 1)))
      ⟨0, none, rfl, e1, upd_same, by rw [Nat.add_zero, Nat.zero_add]⟩ (fun i σ H' _ ⟨_, _, _, _, hp, _⟩ => SqL.of hp) ?_ ?_⟩
    · rintro i x σ H' hx ⟨c, y, rfl, x1, hp, ec⟩
      rw [List.getElem?_drop] at hx
      obtain ⟨f, ef, hf⟩ := (hF.ext x1).at' hx
      rw [drop_at ef] at ec
      obtain ⟨a, r, rfl, st⟩ := dt_tag hf
      refine ⟨_, rfl, a, _, _, _, rfl, rfl, st, at0, sz2, fun u nu => ?_⟩
      refine ⟨u, _, rfl, .inr (SqT.of upd_same), rfl, rfl, _, rfl, ?_⟩
      have n2 := Ext.new (T := T0) (o := .tup [.str "game", .str "place"]) nu
      have x2 := x1.trans n2
      have st2 := n2.seqT st
      have hp2 := n2.lst hp
      cases f with
      | game s =>
        refine ifT (by show inV (.str "game") _ = true; decide +kernel) ⟨_, rfl, ?_⟩
        have : c = countS (fs.drop (j + 1)) := by
          rw [← ec]
          rfl
        rw [this]
        exact q _ x2
      | place s k =>
        refine ifT (by show inV (.str "place") _ = true; decide +kernel) ⟨_, rfl, ?_⟩
        have : c = countS (fs.drop (j + 1)) := by
          rw [← ec]
          rfl
        rw [this]
        exact q _ x2
      | state z =>
        refine ifF (by show inV (.str "state") _ = false; decide +kernel) ?_
        refine ⟨_, rfl, a, _, _, _, rfl, rfl, st2, at0, rfl, _, rfl, ifT (decide_eq_true rfl) ?_⟩
        refine ⟨_, rfl, _, _, rfl, rfl, c + 1, some (.ref a), ?_, x2, hp2, ?_⟩
        · show [some (V.ref l), some (V.int j), some (V.int ((c : Int) + 1)), some (V.ref a)] = _
          rw [show ((c : Int) + 1) = ((c + 1 : Nat) : Int) by omega]
        · rw [← ec]
          show c + 1 + countS (fs.drop (j + 1 + (i + 1))) = c + (countS (fs.drop (j + 1 + i + 1)) + 1)
          rw [show j + 1 + (i + 1) = j + 1 + i + 1 by omega]
          omega
      | disc z =>
        refine ifF (by show inV (.str "discount") _ = false; decide +kernel) ?_
        refine ⟨_, rfl, a, _, _, _, rfl, rfl, st2, at0, rfl, _, rfl, ifF (by show decide (V.str "discount" = V.str "state") = false; decide +kernel) ?_⟩
        exact ⟨c, some (.ref a), rfl, x2, hp2, by rw [← ec]; rfl⟩
      | to k z =>
        refine ifF (by show inV (.str "to") _ = false; decide +kernel) ?_
        refine ⟨_, rfl, a, _, _, _, rfl, rfl, st2, at0, rfl, _, rfl, ifF (by show decide (V.str "to" = V.str "state") = false; decide +kernel) ?_⟩
        exact ⟨c, some (.ref a), rfl, x2, hp2, by rw [← ec]; rfl⟩
    · rintro σ H' ⟨c, y, rfl, x1, hp, ec⟩
      have hl := hF.len
      have e0 : fs.drop (j + 1 + (vs.drop (j + 1)).length) = [] := by
        refine List.drop_of_length_le ?_
        rw [List.length_drop]
        omega
      rw [e0] at ec
      refine ⟨_, rfl, ?_⟩
      have : c = countS (fs.drop (j + 1)) := by
        rw [← ec]
        rfl
      rw [this]
      exact q _ x1
/-! ### row_total -/
abbrev s_row_total : Stmt := top 22
theorem sc_row_total : FnScope ["forms", "at", "result", "form"] ["forms", "at"] (defScope s_row_total) := ⟨rfl, rfl, rfl, by decide +kernel, rfl, by decide +kernel, by decide +kernel⟩
def spRow (T0 : Addr) (K : PySem.W.Frag) : Sp := fun us H Q _ => ∃ (l : Addr) (j : Nat) (vs : List V) (fs : List Fm), us = [.ref l, .int j] ∧ Forms K H l vs fs ∧ SmF (0, 1) (fs.drop (j + 1)) ∧ Gives T0 K H Q (encR (totF (0, 1) (fs.drop (j + 1))))
theorem ok_row_total (D : At K mg "row_total" s_row_total) (G_add : Ok P w K mg base 3 "add" ["a", "b"] (spAdd T0 K)) : Ok P w K mg base 4 "row_total" ["forms", "at"] (spRow T0 K) := by
  refine D.ok sc_row_total (fun _ _ _ _ _ _ us hl => match us, hl with | [_, _], _ => rfl) (fun vs H Q E h => ?_) (fun f cdv A outer s H us Q E hr h => ?_)
  · obtain ⟨_, _, _, _, rfl, _⟩ := h
    rfl
  · obtain ⟨l, j, vs, fs, rfl, hF, hsm, q⟩ := h
    refine ⟨_, (pss_cons (ps_set (i := 2) sc_row_total.nd rfl (Or.inl rfl) (pe_tup (pa_cons pe_int (pa_cons pe_int pa_nil))))
  (pss_cons (ps_for PassesOwn.never rfl (pi_list (pe_slice sl_list (pv 0) (po_some (pe_op op_add (pv 1) pe_int)) po_none)) (pg_name (i := 3) sc_row_total.nd rfl (Or.inl rfl))
  (pss_cons (ps_if (pt_cmpR op_ne (pe_ix ix_tup (pv 3) pe_int (fun _ _ => rfl)) pe_str (nomark _))
  (pss_one ps_break)
  pss_nil)
  (pss_one (ps_set (i := 2) sc_row_total.nd rfl (Or.inl rfl) (pe_own G_add (hr.mono (by decide)) (by rfl) (pa_cons (pv 2) (pa_cons (pe_ix ix_tup (pv 3) pe_int (fun _ _ => rfl)) pa_nil)))))))
  (pss_one (ps_ret (pv 2))))), ?_⟩
    refine ⟨sz2, fun t nt => ?_⟩
    have e1 : Ext T0 H (upd H t (.tup [.int 0, .int 1])) := Ext.new nt
    have d1 : Dt K (upd H t (.tup [.int 0, .int 1])) (.ref t) (encR (0, 1)) := .newT nt (dp_rt 0 1)
    refine ⟨_, rfl, _, rfl, _, _, rfl, rfl, _, rfl, l, vs, rfl, e1.seqL hF.seq, fun p np => ?_⟩
    rw [show ((j : Int) + 1) = ((j + 1 : Nat) : Int) by omega, cut_drop]
    have e2 : Ext T0 (upd H t (.tup [.int 0, .int 1])) (upd (upd H t (.tup [.int 0, .int 1])) p (.lst (vs.drop (j + 1)))) := Ext.new np
    refine ⟨p, rfl, ⟨_, SqL.of upd_same⟩, for_list (K := K) (a := p) (xs := vs.drop (j + 1)) (fun i σ H' => ∃ (acc : Rt) (v : V) (y : Option V), σ = [some (.ref l), some (.int j), some v, y] ∧ Ext T0 H H' ∧ H' p = some (.lst (vs.drop (j + 1))) ∧ Dt K H' v (encR acc) ∧ SmF acc (fs.drop (j + 1 + i)) ∧ totF acc (fs.drop (j + 1 + i)) = totF (0, 1) (fs.drop (j + 1)))
      ⟨(0, 1), _, none, rfl, e1.trans e2, upd_same, d1.ext e2, hsm, rfl⟩ (fun i σ H' _ ⟨_, _, _, _, _, hp, _⟩ => SqL.of hp) ?_ ?_⟩
    · rintro i x σ H' hx ⟨acc, v, y, rfl, x1, hp, hv, hs, ec⟩
      rw [List.getElem?_drop] at hx
      obtain ⟨f, ef, hf⟩ := (hF.ext x1).at' hx
      rw [drop_at ef] at ec hs
      have out : ∀ f' : Fm, f' = f → tagF f' ≠ "to" → totF acc (f' :: fs.drop (j + 1 + i + 1)) = acc → (tSeq (tIfS (tTest (tOp rNe (tOp (rIxT K) (tVar 3) (tC (.int 0))) (tC (.str "to")))) tBreak tNext) (tAsg (tCall (spAdd T0 K) [] E0 (tCons (tVar 2) (tCons (tOp (rIxT K) (tVar 3) (tC (.int 2))) tNil))) (gName 2)))
          { nx := fun σ H' => ∃ (acc : Rt) (v : V) (y : Option V), σ = [some (.ref l), some (.int j), some v, y] ∧ Ext T0 H H' ∧ H' p = some (.lst (vs.drop (j + 1))) ∧ Dt K H' v (encR acc) ∧ SmF acc (fs.drop (j + 1 + (i + 1))) ∧ totF acc (fs.drop (j + 1 + (i + 1))) = totF (0, 1) (fs.drop (j + 1)),
            rt := Q, bk := tRet (tVar 2) { nx := fun _ H' => Q .non H', rt := Q }, ct := fun σ H' => ∃ (acc : Rt) (v : V) (y : Option V), σ = [some (.ref l), some (.int j), some v, y] ∧ Ext T0 H H' ∧ H' p = some (.lst (vs.drop (j + 1))) ∧ Dt K H' v (encR acc) ∧ SmF acc (fs.drop (j + 1 + (i + 1))) ∧ totF acc (fs.drop (j + 1 + (i + 1))) = totF (0, 1) (fs.drop (j + 1)) }
          [some (.ref l), some (.int j), some v, some x] H' := by
        rintro f' rfl ht hacc
        obtain ⟨a, r, rfl, st⟩ := dt_tag hf
        refine ⟨_, rfl, a, _, _, _, rfl, rfl, st, at0, rfl, _, rfl, ifT (by rw [decide_eq_false (fun z => ht (V.str.inj z))]; rfl) ⟨_, rfl, ?_⟩⟩
        rw [hacc] at ec
        rw [ec] at hv
        exact q _ _ x1 hv
      cases f with
      | to k z =>
        obtain ⟨a, y2, rfl, st, hz⟩ := dt_to hf
        refine ⟨_, rfl, a, _, _, _, rfl, rfl, st, at0, rfl, _, rfl, ifF (by rw [decide_eq_true rfl]; rfl) ?_⟩
        refine ⟨_, rfl, _, rfl, a, _, _, _, rfl, rfl, st, at2, v, y2, acc, z, rfl, hv, hz, hs.1, hs.2.1, fun v2 H2 x2 d2 => ?_⟩
        refine ⟨radd acc z, v2, _, rfl, x1.trans x2, x2.lst hp, d2, ?_, ?_⟩
        · rw [show j + 1 + (i + 1) = j + 1 + i + 1 by omega]
          exact hs.2.2
        · rw [show j + 1 + (i + 1) = j + 1 + i + 1 by omega]
          exact ec
      | disc z => exact out (.disc z) rfl (by show ("discount" : Str) ≠ "to"; decide +kernel) rfl
      | game z => exact out (.game z) rfl (by show ("game" : Str) ≠ "to"; decide +kernel) rfl
      | state z => exact out (.state z) rfl (by show ("state" : Str) ≠ "to"; decide +kernel) rfl
      | place z k => exact out (.place z k) rfl (by show ("place" : Str) ≠ "to"; decide +kernel) rfl
    · rintro σ H' ⟨acc, v, y, rfl, x1, hp, hv, hs, ec⟩
      have hl := hF.len
      have e0 : fs.drop (j + 1 + (vs.drop (j + 1)).length) = [] := by
        refine List.drop_of_length_le ?_
        rw [List.length_drop]
        omega
      rw [e0] at ec
      have : acc = totF (0, 1) (fs.drop (j + 1)) := ec
      rw [this] at hv
      exact ⟨_, rfl, q _ _ x1 hv⟩
/-! ### breaks_move_rule -/
abbrev s_breaks_move_rule : Stmt := top 23
theorem sc_breaks_move_rule : FnScope ["forms", "at", "size", "before"] ["forms", "at", "size"] (defScope s_breaks_move_rule) := ⟨rfl, rfl, rfl, by decide +kernel, rfl, by decide +kernel, by decide +kernel⟩
def spMove (T0 : Addr) (K : PySem.W.Frag) : Sp := fun us H Q _ => ∃ (l : Addr) (j n k : Nat) (r : Rt) (vs : List V) (fs : List Fm), us = [.ref l, .int (j + 1 : Nat), .int n] ∧ Forms K H l vs fs ∧ fs[j + 1]? = some (.to k r) ∧ 0 < r.1 ∧ k < n ∧
  ((∃ z, fs[j]? = some (.state z)) ∨ ∃ i z, fs[j]? = some (.to i z) ∧ i < k) ∧ ∀ H', Ext T0 H H' → Q (.bl false) H'
theorem ok_breaks_move_rule (D : At K mg "breaks_move_rule" s_breaks_move_rule) (G_compare : Ok P w K mg base 1 "compare" ["a", "b"] (spCompare K)) : Ok P w K mg base 2 "breaks_move_rule" ["forms", "at", "size"] (spMove T0 K) := by
  refine D.ok sc_breaks_move_rule (fun _ _ _ _ _ _ us hl => match us, hl with | [_, _, _], _ => rfl) (fun vs H Q E h => ?_) (fun f cdv A outer s H us Q E hr h => ?_)
  · obtain ⟨_, _, _, _, _, _, _, rfl, _⟩ := h
    rfl
  · obtain ⟨l, j, n, k, r, vs, fs, rfl, hF, ek, hr0, hk, hb, q⟩ := h
    refine ⟨_, (pss_cons (ps_set (i := 3) sc_breaks_move_rule.nd rfl (Or.inl rfl) (pe_ix ix_list (pv 0) (pe_op op_sub (pv 1) pe_int) (fun _ _ => rfl)))
  (pss_cons (ps_if (pt_cmpR op_notIn_seq (pe_ix ix_tup (pv 3) pe_int (fun _ _ => rfl)) (pe_tup (pa_cons pe_str (pa_cons pe_str pa_nil))) rfl)
  (pss_one (ps_ret pe_bl))
  pss_nil)
  (pss_cons (ps_if (PW.pt (pw_and (pt_cmpR op_eq (pe_ix ix_tup (pv 3) pe_int (fun _ _ => rfl)) pe_str (nomark _)) (pw_and1 (pt_cmpR op_ge (pe_ix ix_tup (pv 3) pe_int (fun _ _ => rfl)) (pe_ix ix_tup (pe_ix ix_list (pv 0) (pv 1) (fun _ _ => rfl)) pe_int (fun _ _ => rfl)) (nomark _)))))
  (pss_one (ps_ret pe_bl))
  pss_nil)
  (pss_one (ps_ret (pe_or (pe_cmpR op_le (pe_own G_compare (hr.mono (by decide)) (by rfl) (pa_cons (pe_ix ix_tup (pe_ix ix_list (pv 0) (pv 1) (fun _ _ => rfl)) pe_int (fun _ _ => rfl)) (pa_cons (pe_tup (pa_cons pe_int (pa_cons pe_int pa_nil))) pa_nil))) pe_int (nomark _)) (pe_one (pe_cmpR op_ge (pe_ix ix_tup (pe_ix ix_list (pv 0) (pv 1) (fun _ _ => rfl)) pe_int (fun _ _ => rfl)) (pv 2) (nomark _))))))))), ?_⟩
    obtain ⟨b, eb, hbt⟩ : ∃ b, fs[j]? = some b ∧ ((∃ z, b = .state z) ∨ ∃ i z, b = .to i z ∧ i < k) := by
      rcases hb with ⟨z, e⟩ | ⟨i, z, e, h⟩
      · exact ⟨_, e, .inl ⟨z, rfl⟩⟩
      · exact ⟨_, e, .inr ⟨i, z, rfl, h⟩⟩
    obtain ⟨v, ev, hv⟩ := hF.at eb
    obtain ⟨v2, ev2, hv2⟩ := hF.at ek
    obtain ⟨a2, y2, rfl, st2, hy2⟩ := dt_to hv2
    have g1 : atI vs (((j + 1 : Nat) : Int) - 1) = some v := by
      rw [show ((j + 1 : Nat) : Int) - 1 = (j : Int) by omega]
      exact atI_nat ev
    have g2 : atI vs ((j + 1 : Nat) : Int) = some (.ref a2) := atI_nat ev2
    -- the last line: compare(forms[at][2], (0, 1)) <= 0 or forms[at][1] >= size
    have last : ∀ (H' : Hp) (v : V), Ext T0 H H' → tRet (tOrV (tOp (rI0 fun i j => .bl (decide (i ≤ j))) (tCall (spCompare K) [] E0 (tCons (tOp (rIxT K) (tOp (rIxL K) (tVar 0) (tVar 1)) (tC (.int 2))) (tCons (tTup (tCons (tC (.int 0)) (tCons (tC (.int 1)) tNil))) tNil))) (tC (.int 0)))
        (tOp (rI0 fun i j => .bl (decide (j ≤ i))) (tOp (rIxT K) (tOp (rIxL K) (tVar 0) (tVar 1)) (tC (.int 1))) (tVar 2))) { nx := fun _ H' => Q .non H', rt := Q } [some (.ref l), some (.int (j + 1 : Nat)), some (.int n), some v] H' := by
      intro H' v x1
      have sq := x1.seqL hF.seq
      refine ⟨_, rfl, _, rfl, l, vs, _, _, rfl, rfl, sq, g2, a2, _, _, _, rfl, rfl, x1.seqT st2, at2, sz2, fun t nt => ?_⟩
      have n2 := Ext.new (T := T0) (o := .tup [.int 0, .int 1]) nt
      refine ⟨y2, .ref t, r, (0, 1), rfl, (hy2.ext x1).ext n2, .newT nt (dp_rt 0 1), by decide, by decide, ?_⟩
      have ec : cmpR r (0, 1) = 1 := by
        unfold cmpR
        have h1 : ¬ r.1 * (0, 1).2 < ((0, 1) : Rt).1 * r.2 := by
          show ¬ r.1 * 1 < 0 * r.2
          rw [Int.mul_one, Int.zero_mul]
          omega
        have h2 : r.1 * (0, 1).2 > ((0, 1) : Rt).1 * r.2 := by
          show r.1 * 1 > 0 * r.2
          rw [Int.mul_one, Int.zero_mul]
          omega
        rw [if_neg h1, if_pos h2]
      rw [ec]
      refine ⟨_, _, rfl, rfl, _, rfl, ifF (by decide) ?_⟩
      have x2 := x1.trans n2
      refine ⟨_, rfl, _, rfl, l, vs, _, _, rfl, rfl, n2.seqL sq, g2, a2, _, _, _, rfl, rfl, n2.seqT (x1.seqT st2), at1, _, rfl, _, _, rfl, rfl, ?_⟩
      show Q (.bl (decide ((n : Int) ≤ (k : Int)))) _
      rw [decide_eq_false (by omega)]
      exact q _ x2
    refine ⟨_, rfl, _, rfl, _, _, rfl, rfl, l, vs, _, _, rfl, rfl, hF.seq, g1, ?_⟩
    rcases hbt with ⟨z, rfl⟩ | ⟨i, z, rfl, hik⟩
    · obtain ⟨a, y, rfl, st, _⟩ := dt_state hv
      refine ⟨_, rfl, a, _, _, _, rfl, rfl, st, at0, sz2, fun u nu => ?_⟩
      have n1 := Ext.new (T := T0) (o := .tup [.str "state", .str "to"]) nu
      refine ⟨u, _, rfl, .inr (SqT.of upd_same), rfl, rfl, _, rfl, ifF (by decide +kernel) ?_⟩
      refine ⟨_, rfl, a, _, _, _, rfl, rfl, n1.seqT st, at0, rfl, _, rfl, ifF (by decide +kernel) (ifF rfl (last _ _ n1))⟩
    · obtain ⟨a, y, rfl, st, _⟩ := dt_to hv
      refine ⟨_, rfl, a, _, _, _, rfl, rfl, st, at0, sz2, fun u nu => ?_⟩
      have n1 := Ext.new (T := T0) (o := .tup [.str "state", .str "to"]) nu
      refine ⟨u, _, rfl, .inr (SqT.of upd_same), rfl, rfl, _, rfl, ifF (by show (!inV (.str "to") [.str "state", .str "to"]) = false; decide +kernel) ?_⟩
      refine ⟨_, rfl, a, _, _, _, rfl, rfl, n1.seqT st, at0, rfl, _, rfl, ifT (decide_eq_true rfl) ?_⟩
      refine ⟨_, rfl, a, _, _, _, rfl, rfl, n1.seqT st, at1, _, rfl, _, rfl, l, vs, _, _, rfl, rfl, n1.seqL hF.seq, g2, a2, _, _, _, rfl, rfl, n1.seqT st2, at1, _, _, rfl, rfl, _, rfl, ifF (decide_eq_false (by omega)) (last _ _ n1)⟩
end
end Bk

namespace Bk
open PySem PySem.Spec PyProof.Rows L2 GxR TL
/-! ### dicts by texts -/
def kk (p : Str × Nat) : Key × V := (.inr p.1, .int (p.2 : Nat))
theorem val_none {κ : Type} [DecidableEq κ] : ∀ {kvs : List (κ × V)} {k : κ}, (∀ p ∈ kvs, p.1 ≠ k) → valV kvs k = none
  | [], _, _ => rfl
  | p :: r, k, h => by
    have ih := val_none (kvs := r) (k := k) fun q hq => h q (List.mem_cons_of_mem _ hq)
    unfold valV at ih ⊢
    rw [List.find?_cons, decide_eq_false (h p (List.mem_cons_self ..))]
    exact ih
theorem put_new {κ : Type} [DecidableEq κ] {kvs : List (κ × V)} {k : κ} {v : V} (h : ∀ p ∈ kvs, p.1 ≠ k) : putK kvs k v = kvs ++ [(k, v)] := by
  unfold putK
  rw [if_neg]
  intro z
  obtain ⟨p, hp, e⟩ := List.any_eq_true.mp z
  exact h p hp (of_decide_eq_true e)
theorem val_mem {κ : Type} [DecidableEq κ] : ∀ {kvs : List (κ × V)} {k : κ} {v : V}, (kvs.map (·.1)).Nodup → (k, v) ∈ kvs → valV kvs k = some v
  | [], _, _, _, h => by cases h
  | p :: r, k, v, hn, h => by
    have hn' := List.nodup_cons.mp hn
    rcases List.mem_cons.mp h with e | h
    · subst e
      unfold valV
      rw [List.find?_cons, decide_eq_true rfl]
      rfl
    · have hne : ¬ p.1 = k := fun e => hn'.1 (List.mem_map.mpr ⟨(k, v), h, e.symm⟩)
      have ih := val_mem (kvs := r) (k := k) hn'.2 h
      unfold valV at ih ⊢
      rw [List.find?_cons, decide_eq_false hne]
      exact ih
theorem nd_inr {l : List Str} (h : l.Nodup) : (l.map fun s => (Sum.inr s : Key)).Nodup := List.Pairwise.map _ (fun a b hab e => hab (Sum.inr.inj e)) h
theorem kk_nd {l : List (Str × Nat)} (h : (l.map (·.1)).Nodup) : ((l.map kk).map (·.1)).Nodup := by
  have := nd_inr h
  rw [List.map_map] at this ⊢
  exact this
section
variable {P : Program} {w : World} {K : PySem.W.Frag} {mg : Str → Option Value} {base : Heap} {T0 c0 : Addr} {tD tL : Tok}
/-! ### state_counts -/
abbrev s_state_counts : Stmt := top 21
theorem sc_state_counts : FnScope ["forms", "counts", "at", "form"] ["forms"] (defScope s_state_counts) := ⟨rfl, rfl, rfl, by decide +kernel, rfl, by decide +kernel, by decide +kernel⟩
def spStateC (T0 : Addr) (K : PySem.W.Frag) : Sp := fun us H Q _ => ∃ (l : Addr) (vs : List V) (fs : List Fm), us = [.ref l] ∧ Forms K H l vs fs ∧ fs.length ≤ 5000 ∧ ((cnts fs).map (·.1)).Nodup ∧ ∀ d H', Ext T0 H H' → H' d = some (.dK ((cnts fs).map kk)) → Q (.ref d) H'
theorem cnts_len : ∀ fs : List Fm, (cnts fs).length ≤ fs.length
  | [] => Nat.le_refl _
  | .game s :: r => Nat.succ_le_succ (cnts_len r)
  | .disc s :: r => Nat.le_succ_of_le (cnts_len r)
  | .state s :: r => Nat.le_succ_of_le (cnts_len r)
  | .to s _ :: r => Nat.le_succ_of_le (cnts_len r)
  | .place s _ :: r => Nat.le_succ_of_le (cnts_len r)
theorem ok_state_counts (D : At K mg "state_counts" s_state_counts) (T : Nm mg tD tL) (G_count_states : Ok P w K mg base 1 "count_states" ["forms", "at"] (spCountS T0 K)) : Ok P w K mg base 2 "state_counts" ["forms"] (spStateC T0 K) := by
  refine D.ok sc_state_counts (fun _ _ _ _ _ _ us hl => match us, hl with | [_], _ => rfl) (fun vs H Q E h => ?_) (fun f cdv A outer s H us Q E hr h => ?_)
  · obtain ⟨_, _, _, rfl, _⟩ := h
    rfl
  · obtain ⟨l, vs, fs, rfl, hF, hlen, hnd, q⟩ := h
    refine ⟨_, (pss_cons (ps_set (i := 1) sc_state_counts.nd rfl (Or.inl rfl) pe_dnewK)
  (pss_cons (ps_for PassesOwn.never rfl (pi_enum (by rfl) T.n_enumerate (pa_cons (pv 0) pa_nil)) (pg_tup rfl (pgs_cons (pg_name (i := 2) sc_state_counts.nd rfl (Or.inl rfl)) (pgs_cons (pg_name (i := 3) sc_state_counts.nd rfl (Or.inl rfl)) pgs_nil)))
  (pss_one (ps_if (PW.pt (pw_and (pt_cmpR op_eq (pe_ix ix_tup (pv 3) pe_int (fun _ _ => rfl)) pe_str (nomark _)) (pw_and1 (pt_cmp (pc_dnotin (hu_of hr) (pe_ix ix_tup (pv 3) pe_int (fun _ _ => rfl)) (pv 1))))))
  (pss_one (ps_dput (hu_of hr) (pv 1) (pe_ix ix_tup (pv 3) pe_int (fun _ _ => rfl)) (pe_own G_count_states (hr.mono (by decide)) (by rfl) (pa_cons (pv 0) (pa_cons (pv 2) pa_nil))) rfl))
  pss_nil)))
  (pss_one (ps_ret (pv 1))))), ?_⟩
    refine fun d nd => ?_
    refine ⟨_, rfl, l, vs, rfl, (Ext.new (T := T0) nd).seqL hF.seq, for_enum (K := K) (a := l) (xs := vs) (fun i σ H' => ∃ (kvs : List (Key × V)) (y2 y3 : Option V), σ = [some (.ref l), some (.ref d), y2, y3] ∧ Ext T0 H H' ∧ H' d = some (.dK kvs) ∧ kvs ++ (cnts (fs.drop i)).map kk = (cnts fs).map kk)
      ⟨[], none, none, rfl, Ext.new nd, upd_same, rfl⟩ (fun i σ H' _ ⟨_, _, _, _, x1, _⟩ => x1.seqL hF.seq) ?_ ?_⟩
    · rintro i x p σ H' hx ⟨kvs, y2, y3, rfl, x1, hd, ek⟩ np
      obtain ⟨f, ef, hf⟩ := (hF.ext x1).at' hx
      have n2 := Ext.new (T := T0) (o := .tup [.int (i : Nat), x]) np
      have x2 := x1.trans n2
      have hd2 := n2.dk hd
      have hf2 := hf.ext n2
      rw [drop_at ef] at ek
      refine ⟨p, _, rfl, SqT.of upd_same, rfl, _, _, rfl, _, _, rfl, rfl, ?_⟩
      have skip : tagF f ≠ "game" → kvs ++ (cnts (fs.drop (i + 1))).map kk = (cnts fs).map kk → ((tIfS (tAnd (tTest (tOp rEq (tOp (rIxT K) (tVar 3) (tC (.int 0))) (tC (.str "game")))) (tB (tDNotIn (tOp (rIxT K) (tVar 3) (tC (.int 1))) (tVar 1))))
          (sDPut (tVar 1) (tOp (rIxT K) (tVar 3) (tC (.int 1))) (tCall (spCountS T0 K) [] E0 (tCons (tVar 0) (tCons (tVar 2) tNil)))) tNext)
          { nx := fun σ H' => ∃ (kvs : List (Key × V)) (y2 y3 : Option V), σ = [some (.ref l), some (.ref d), y2, y3] ∧ Ext T0 H H' ∧ H' d = some (.dK kvs) ∧ kvs ++ (cnts (fs.drop (i + 1))).map kk = (cnts fs).map kk,
            rt := Q, bk := tRet (tVar 1) { nx := fun _ H' => Q .non H', rt := Q }, ct := fun σ H' => ∃ (kvs : List (Key × V)) (y2 y3 : Option V), σ = [some (.ref l), some (.ref d), y2, y3] ∧ Ext T0 H H' ∧ H' d = some (.dK kvs) ∧ kvs ++ (cnts (fs.drop (i + 1))).map kk = (cnts fs).map kk }
          [some (.ref l), some (.ref d), some (.int (i : Nat)), some x] (upd H' p (.tup [.int (i : Nat), x]))) := by
        intro ht e
        obtain ⟨a, r, rfl, st⟩ := dt_tag hf2
        exact ⟨_, rfl, a, _, _, _, rfl, rfl, st, at0, rfl, _, rfl, ifF (decide_eq_false fun z => ht (V.str.inj z)) (ifF rfl ⟨kvs, _, _, rfl, x2, hd2, e⟩)⟩
      cases f with
      | disc z => exact skip (by show ("discount" : Str) ≠ "game"; decide +kernel) ek
      | state z => exact skip (by show ("state" : Str) ≠ "game"; decide +kernel) ek
      | to k z => exact skip (by show ("to" : Str) ≠ "game"; decide +kernel) ek
      | place k z => exact skip (by show ("place" : Str) ≠ "game"; decide +kernel) ek
      | game z =>
        obtain ⟨a, rfl, st⟩ := dt_game hf2
        have fresh : ∀ q ∈ kvs, q.1 ≠ (Sum.inr z : Key) := by
          intro q hq e
          have hn := kk_nd hnd
          rw [← ek, List.map_append] at hn
          have := List.nodup_append.mp hn
          exact this.2.2 q.1 (List.mem_map.mpr ⟨q, hq, rfl⟩) (Sum.inr z) (List.mem_map.mpr ⟨_, List.mem_cons_self .., rfl⟩) e
        refine ⟨_, rfl, a, _, _, _, rfl, rfl, st, at0, rfl, _, rfl, ifT (decide_eq_true rfl) ?_⟩
        refine ⟨_, rfl, a, _, _, _, rfl, rfl, st, at1, _, rfl, d, _, rfl, DGet.k (k := Sum.inr z) hd2, _, rfl, ?_⟩
        rw [val_none fresh]
        refine ifT rfl ?_
        refine ⟨_, rfl, _, rfl, l, i, vs, fs, rfl, hF.ext x2, fun H3 x3 => ?_⟩
        have hd3 := x3.dk hd2
        refine ⟨_, rfl, _, rfl, a, _, _, _, rfl, rfl, x3.seqT st, at1, d, _, rfl, DPut.k (k := Sum.inr z) hd3 (lt_line ?_), ?_⟩
        · have h1 := congrArg List.length ek
          simp only [List.length_append, List.length_map] at h1
          have h2 := cnts_len fs
          omega
        · refine ⟨kvs ++ [(Sum.inr z, .int (countS (fs.drop (i + 1)) : Nat))], _, _, rfl, (x2.trans x3).put nd, ?_, ?_⟩
          · rw [upd_same, put_new fresh]
          · rw [List.append_assoc]
            exact ek
    · rintro σ H' ⟨kvs, y2, y3, rfl, x1, hd, ek⟩
      have e0 : fs.drop vs.length = [] := List.drop_of_length_le (by rw [hF.len]; exact Nat.le_refl _)
      rw [e0] at ek
      have ek' : kvs = (cnts fs).map kk := by
        rw [← ek]
        simp [cnts]
      rw [ek'] at hd
      exact ⟨_, rfl, q d H' x1 hd⟩
/-! ### check_lines -/
abbrev s_check_lines : Stmt := top 24
theorem sc_check_lines : FnScope ["forms", "counts", "seen", "size", "had_place", "at", "form", "wrong"] ["forms"] (defScope s_check_lines) := ⟨rfl, rfl, rfl, by decide +kernel, rfl, by decide +kernel, by decide +kernel⟩
def spCheck (T0 : Addr) (K : PySem.W.Frag) : Sp := fun us H Q _ => ∃ (l : Addr) (vs : List V) (fs : List Fm), us = [.ref l] ∧ Forms K H l vs fs ∧ fs.length ≤ 5000 ∧ ((cnts fs).map (·.1)).Nodup ∧ CkOk (cnts fs) ck0 fs ∧ ∀ H', Ext T0 H H' → Q .non H'
def szV : Option Nat → V
  | none => .non
  | some n => .int n
theorem in_strs (s : Str) : ∀ l : List Str, s ∉ l → inV (.str s) (l.map V.str) = false
  | [], _ => rfl
  | x :: r, h => by
    have ih := in_strs s r fun z => h (List.mem_cons_of_mem _ z)
    unfold inV at ih ⊢
    rw [List.map_cons, List.any_cons, ih, Bool.or_false]
    show (x == s) = false
    exact beq_eq_false_iff_ne.mpr fun e => h (by rw [e]; exact List.mem_cons_self ..)
theorem flat_strs : ∀ l : List Str, (l.map V.str).all flatV = true
  | [] => rfl
  | x :: r => by
    rw [List.map_cons, List.all_cons, flat_strs r]
    rfl
theorem shaped_one (r : Rt) : SeqAt.shaped (.list [encF (.state r)]) = true := by
  unfold encF encR
  kernel_rfl
theorem shaped_nil : SeqAt.shaped (.list []) = true := by kernel_rfl
theorem shaped_11 : SeqAt.shaped (encR (1, 1)) = true := by kernel_rfl
theorem eqv_11 : PyData.eqv (encR (1, 1)) (encR (1, 1)) = true := by kernel_rfl
theorem eqv_cons_nil (d : PyData) : PyData.eqv (.list [d]) (.list []) = false := by
  simp [PyData.eqv, PyData.eqvAll]
theorem cut_one {vs : List V} {k : Nat} {v : V} (h : vs[k]? = some v) : cutV vs (some (k : Int)) (some ((k + 1 : Nat) : Int)) = [v] := by
  have hk := (List.getElem?_eq_some_iff.mp h).1
  unfold cutV
  rw [show HT.sIx vs.length 0 (some (k : Int)) = min k vs.length from HT.sIx_nat _ _ k, show HT.sIx vs.length vs.length (some ((k + 1 : Nat) : Int)) = min (k + 1) vs.length from HT.sIx_nat _ _ (k + 1)]
  rw [Nat.min_eq_left (by omega), Nat.min_eq_left (by omega), drop_at h, show k + 1 - k = 1 by omega]
  rfl
theorem ok_check_lines (D : At K mg "check_lines" s_check_lines) (T : Nm mg tD tL) (G_state_counts : Ok P w K mg base 2 "state_counts" ["forms"] (spStateC T0 K)) (G_compare : Ok P w K mg base 1 "compare" ["a", "b"] (spCompare K))
    (G_count_states : Ok P w K mg base 1 "count_states" ["forms", "at"] (spCountS T0 K)) (G_row_total : Ok P w K mg base 4 "row_total" ["forms", "at"] (spRow T0 K)) (G_breaks_move_rule : Ok P w K mg base 2 "breaks_move_rule" ["forms", "at", "size"] (spMove T0 K)) :
    Ok P w K mg base 5 "check_lines" ["forms"] (spCheck T0 K) := by
  refine D.ok sc_check_lines (fun _ _ _ _ _ _ us hl => match us, hl with | [_], _ => rfl) (fun vs H Q E h => ?_) (fun f cdv A outer s H us Q E hr h => ?_)
  · obtain ⟨_, _, _, rfl, _⟩ := h
    rfl
  · obtain ⟨l, vs, fs, rfl, hF, hlen, hnd, hck, q⟩ := h
    refine ⟨_, (pss_cons (ps_set (i := 1) sc_check_lines.nd rfl (Or.inl rfl) (pe_own G_state_counts (hr.mono (by decide)) (by rfl) (pa_cons (pv 0) pa_nil)))
  (pss_cons (ps_set (i := 2) sc_check_lines.nd rfl (Or.inl rfl) (pe_lst pa_nil))
  (pss_cons (ps_set (i := 3) sc_check_lines.nd rfl (Or.inl rfl) pe_non)
  (pss_cons (ps_set (i := 4) sc_check_lines.nd rfl (Or.inl rfl) pe_bl)
  (pss_one (ps_for PassesOwn.never rfl (pi_enum (by rfl) T.n_enumerate (pa_cons (pv 0) pa_nil)) (pg_tup rfl (pgs_cons (pg_name (i := 5) sc_check_lines.nd rfl (Or.inl rfl)) (pgs_cons (pg_name (i := 6) sc_check_lines.nd rfl (Or.inl rfl)) pgs_nil)))
  (pss_cons (ps_set (i := 7) sc_check_lines.nd rfl (Or.inl rfl) (pe_cmpR op_ne (pe_cmpR op_eq (pv 5) pe_int (nomark _)) (pe_cmpR op_eq (pe_ix ix_tup (pv 6) pe_int (fun _ _ => rfl)) pe_str (nomark _)) (nomark _)))
  (pss_cons (ps_if (pt_cmpR op_eq (pe_ix ix_tup (pv 6) pe_int (fun _ _ => rfl)) pe_str (nomark _))
  (pss_one (ps_set (i := 7) sc_check_lines.nd rfl (Or.inl rfl) (pe_or (pv 7) (pe_or (pe_cmpR op_lt (pe_own G_compare (hr.mono (by decide)) (by rfl) (pa_cons (pe_ix ix_tup (pv 6) pe_int (fun _ _ => rfl)) (pa_cons (pe_tup (pa_cons pe_int (pa_cons pe_int pa_nil))) pa_nil))) pe_int (nomark _)) (pe_one (pe_cmpR op_ge (pe_own G_compare (hr.mono (by decide)) (by rfl) (pa_cons (pe_ix ix_tup (pv 6) pe_int (fun _ _ => rfl)) (pa_cons (pe_tup (pa_cons pe_int (pa_cons pe_int pa_nil))) pa_nil))) pe_int (nomark _)))))))
  (pss_one (ps_if (pt_cmpR op_eq (pe_ix ix_tup (pv 6) pe_int (fun _ _ => rfl)) pe_str (nomark _))
  (pss_cons (ps_set (i := 7) sc_check_lines.nd rfl (Or.inl rfl) (pe_or (pv 7) (pe_or (pe_cmpR op_in_seq (pe_ix ix_tup (pv 6) pe_int (fun _ _ => rfl)) (pv 2) rfl) (pe_or (pv 4) (pe_one (pe_cmpR (op_eqD hr.units) (pe_slice sl_list (pv 0) (po_some (pe_op op_add (pv 5) pe_int)) (po_some (pe_op op_add (pv 5) pe_int))) (pe_lst pa_nil) (nomark _)))))))
  (pss_cons (ps_set (i := 7) sc_check_lines.nd rfl (Or.inl rfl) (pe_or (pv 7) (pe_one (pe_cmpR op_ne (pe_ix ix_tup (pe_ix ix_list (pv 0) (pe_op op_add (pv 5) pe_int) (fun _ _ => rfl)) pe_int (fun _ _ => rfl)) pe_str (nomark _)))))
  (pss_cons (ps_expr (pe_bm PySem.F.plainAttrs_list PySem.F.slot_list_append PySem.F.type_list_append mt_append (pv 2) (pa_cons (pe_ix ix_tup (pv 6) pe_int (fun _ _ => rfl)) pa_nil)))
  (pss_one (ps_set (i := 3) sc_check_lines.nd rfl (Or.inl rfl) (pe_own G_count_states (hr.mono (by decide)) (by rfl) (pa_cons (pv 0) (pa_cons (pv 5) pa_nil))))))))
  (pss_one (ps_if (pt_cmpR op_eq (pe_ix ix_tup (pv 6) pe_int (fun _ _ => rfl)) pe_str (nomark _))
  (pss_one (ps_set (i := 7) sc_check_lines.nd rfl (Or.inl rfl) (pe_or (pv 7) (pe_or (pe_cmpR op_isN (pv 3) pe_non (nomark _)) (pe_or (pv 4) (pe_one (pe_cmpR (op_neD hr.units) (pe_own G_row_total (hr.mono (by decide)) (by rfl) (pa_cons (pv 0) (pa_cons (pv 5) pa_nil))) (pe_tup (pa_cons pe_int (pa_cons pe_int pa_nil))) (nomark _))))))))
  (pss_one (ps_if (pt_cmpR op_eq (pe_ix ix_tup (pv 6) pe_int (fun _ _ => rfl)) pe_str (nomark _))
  (pss_one (ps_set (i := 7) sc_check_lines.nd rfl (Or.inl rfl) (pe_or (pv 7) (pe_or (pe_cmpR op_isN (pv 3) pe_non (nomark _)) (pe_one (pe_own G_breaks_move_rule (hr.mono (by decide)) (by rfl) (pa_cons (pv 0) (pa_cons (pv 5) (pa_cons (pv 3) pa_nil)))))))))
  (pss_cons (ps_set (i := 7) sc_check_lines.nd rfl (Or.inl rfl) (pe_or (pv 7) (pe_or (pe_cmp (pc_dnotin (hu_of hr) (pe_ix ix_tup (pv 6) pe_int (fun _ _ => rfl)) (pv 1))) (pe_one (pe_cmpR op_ge (pe_ix ix_tup (pv 6) pe_int (fun _ _ => rfl)) (pe_dget (hu_of hr) (pv 1) (pe_ix ix_tup (pv 6) pe_int (fun _ _ => rfl)) (fun _ _ => rfl)) (nomark _))))))
  (pss_one (ps_set (i := 4) sc_check_lines.nd rfl (Or.inl rfl) pe_bl))))))))))
  (pss_one (ps_if (pt_val (pv 7))
  (pss_one ps_never)
  pss_nil)))))))))), ?_⟩
    refine ⟨_, rfl, l, vs, fs, rfl, hF, hlen, hnd, fun d H0 x0 hd0 => ?_⟩
    refine ⟨sz0, fun o no => ?_⟩
    have no0 := x0.free o no
    have n1 := Ext.new (T := T0) (o := .lst []) no
    refine ⟨_, rfl, l, vs, rfl, (x0.trans n1).seqL hF.seq, for_enum (K := K) (a := l) (xs := vs) (fun i σ H' => ∃ (st : Ck) (y5 y6 y7 : Option V), σ = [some (.ref l), some (.ref d), some (.ref o), some (szV st.size), some (.bl st.pl), y5, y6, y7] ∧ Ext T0 H H' ∧ H' d = some (.dK ((cnts fs).map kk)) ∧ H' o = some (.lst (st.seen.map V.str)) ∧
        CkOk (cnts fs) st (fs.drop i) ∧ st.first = decide (i = 0) ∧ (∀ p, st.prev = some p → ∃ j, i = j + 1 ∧ fs[j]? = some p) ∧ st.seen.length ≤ i)
      ⟨ck0, none, none, none, rfl, x0.trans n1, n1.dk hd0, upd_same, hck, rfl, (fun p e => by cases e), Nat.le_refl _⟩ (fun i σ H' _ ⟨_, _, _, _, _, x1, _⟩ => x1.seqL hF.seq) ?_ ?_⟩
    · rintro i x p σ H' hx ⟨st, y5, y6, y7, rfl, x1, hd, ho, ck, hfirst, hprev, hseen⟩ np
      obtain ⟨f, ef, hf⟩ := (hF.ext x1).at' hx
      have hi : i < 5000 := Nat.lt_of_lt_of_le (List.getElem?_eq_some_iff.mp ef).1 hlen
      have n2 := Ext.new (T := T0) (o := .tup [.int (i : Nat), x]) np
      have x2 := x1.trans n2
      have hd2 := n2.dk hd
      have ho2 := n2.lst ho
      have hf2 := hf.ext n2
      rw [drop_at ef] at ck
      obtain ⟨hlo, ckn⟩ := ck
      refine ⟨p, _, rfl, SqT.of upd_same, rfl, _, _, rfl, _, _, rfl, rfl, ?_⟩
      have nfirst : st.first = false → (!decide (V.bl (decide (V.int (i : Nat) = V.int 0)) = V.bl false)) = false := by
        intro e
        rw [e] at hfirst
        have : ¬ i = 0 := of_decide_eq_false hfirst.symm
        have e2 : decide (V.int (i : Nat) = V.int 0) = false := decide_eq_false fun z => this (by have := V.int.inj z; omega)
        rw [e2]
        rfl
      have pnext : ∀ p, some f = some p → ∃ j, i + 1 = j + 1 ∧ fs[j]? = some p := fun p e => ⟨i, rfl, by rw [ef, e]⟩
      cases f with
      | disc r =>
        obtain ⟨a, y, rfl, st2, hy⟩ := dt_disc hf2
        obtain ⟨hf1, hr0, hr1⟩ := hlo
        have i0 : i = 0 := by
          rw [hf1] at hfirst
          exact of_decide_eq_true hfirst.symm
        subst i0
        have hb : (!decide (V.bl (decide (V.int ((0 : Nat) : Int) = V.int 0)) = V.bl (decide (V.str "discount" = V.str "discount")))) = false := by decide +kernel
        refine ⟨_, rfl, rfl, _, rfl, a, _, _, _, rfl, rfl, st2, at0, rfl, rfl, ?_⟩
        refine ⟨_, rfl, a, _, _, _, rfl, rfl, st2, at0, rfl, _, rfl, ifT (decide_eq_true rfl) ?_⟩
        refine ⟨_, rfl, _, rfl, ifF hb ?_⟩
        refine ⟨_, rfl, a, _, _, _, rfl, rfl, st2, at1, sz2, fun t nt => ?_⟩
        have n3 := Ext.new (T := T0) (o := .tup [.int 0, .int 1]) nt
        have c0 : cmpR r (0, 1) = (if 0 < r.1 then 1 else 0) := by
          unfold cmpR
          rw [if_neg (by show ¬ r.1 * 1 < 0 * r.2; rw [Int.mul_one, Int.zero_mul]; omega)]
          show (if r.1 * 1 > 0 * r.2 then _ else _) = _
          rw [Int.mul_one, Int.zero_mul]
        have c1 : cmpR r (1, 1) = -1 := by
          unfold cmpR
          exact if_pos (by show r.1 * 1 < 1 * r.2; rw [Int.mul_one, Int.one_mul]; exact hr1)
        refine ⟨y, .ref t, r, (0, 1), rfl, hy.ext n3, .newT nt (dp_rt 0 1), by decide, by decide, ?_⟩
        refine ⟨_, _, rfl, rfl, _, rfl, ifF (decide_eq_false (by rw [c0]; split <;> omega)) ?_⟩
        refine ⟨_, rfl, a, _, _, _, rfl, rfl, n3.seqT st2, at1, sz2, fun t2 nt2 => ?_⟩
        have n4 := Ext.new (T := T0) (o := .tup [.int 1, .int 1]) nt2
        refine ⟨y, .ref t2, r, (1, 1), rfl, (hy.ext n3).ext n4, .newT nt2 (dp_rt 1 1), by decide, by decide, ?_⟩
        refine ⟨_, _, rfl, rfl, _, rfl, _, rfl, ifF (decide_eq_false (by rw [c1]; decide)) ?_⟩
        refine ⟨ckNext st (.disc r) (fs.drop (0 + 1)), _, _, _, rfl, (x2.trans n3).trans n4, n4.dk (n3.dk hd2), n4.lst (n3.lst ho2), ckn, rfl, pnext, ?_⟩
        exact Nat.le_succ_of_le hseen
      | game s =>
        obtain ⟨a, rfl, st2⟩ := dt_game hf2
        obtain ⟨hf1, hns, hpl, hst⟩ := hlo
        have hb := nfirst hf1
        -- the next line is a state line
        obtain ⟨z, ez⟩ : ∃ z, fs[i + 1]? = some (.state z) := by
          cases e : fs.drop (i + 1) with
          | nil =>
            rw [e] at hst
            exact hst.elim
          | cons g r =>
            rw [e] at hst
            cases g with
            | state z =>
              refine ⟨z, ?_⟩
              have := congrArg (·[0]?) e
              simp only [List.getElem?_drop] at this
              exact this
            | disc _ => exact hst.elim
            | game _ => exact hst.elim
            | to _ _ => exact hst.elim
            | place _ _ => exact hst.elim
        obtain ⟨v1, ev1, hv1⟩ := (hF.ext x2).at ez
        have hs2 : st.seen.length < 5001 := by omega
        refine ⟨_, rfl, rfl, _, rfl, a, _, _, _, rfl, rfl, st2, at0, rfl, rfl, ?_⟩
        refine ⟨_, rfl, a, _, _, _, rfl, rfl, st2, at0, rfl, _, rfl, ifF (by decide +kernel) ?_⟩
        refine ⟨_, rfl, a, _, _, _, rfl, rfl, st2, at0, rfl, _, rfl, ifT (decide_eq_true rfl) ?_⟩
        refine ⟨_, rfl, _, rfl, ifF (by rw [show decide (V.str ("game" : Str) = V.str "discount") = false by decide +kernel]; exact hb) ?_⟩
        refine ⟨_, rfl, a, _, _, _, rfl, rfl, st2, at1, _, rfl, o, _, rfl, .inl (SqL.of ho2), rfl, flat_strs _, _, rfl, ifF (in_strs s _ hns) ?_⟩
        refine ⟨_, rfl, _, rfl, ifF hpl ?_⟩
        refine ⟨_, rfl, _, rfl, _, _, rfl, rfl, _, rfl, _, rfl, _, _, rfl, rfl, _, rfl, l, vs, rfl, x2.seqL hF.seq, fun c nc => ?_⟩
        rw [show ((i : Nat) : Int) + 1 = ((i + 1 : Nat) : Int) by omega, show ((i : Nat) : Int) + 2 = ((i + 1 + 1 : Nat) : Int) by omega, cut_one ev1]
        have n3 := Ext.new (T := T0) (o := .lst [v1]) nc
        refine ⟨sz0, fun c2 nc2 => ?_⟩
        have n4 := Ext.new (T := T0) (o := .lst []) nc2
        have x4 := (x2.trans n3).trans n4
        have hv4 := (hv1.ext n3).ext n4
        refine ⟨.list [encF (.state z)], .list [], .lst (SqL.of (n4.lst upd_same)) (.cons (dt_dp hv4) .nil), .lst (SqL.of upd_same) .nil, shaped_one z, shaped_nil, ?_⟩
        rw [eqv_cons_nil]
        obtain ⟨a1, yz, rfl, stz, _⟩ := dt_state hv4
        refine ⟨_, rfl, _, rfl, ifF rfl ?_⟩
        have evz : atI vs (((i : Nat) : Int) + 1) = some (.ref a1) := by
          rw [show ((i : Nat) : Int) + 1 = ((i + 1 : Nat) : Int) by omega]
          exact atI_nat ev1
        refine ⟨_, rfl, _, rfl, _, _, rfl, rfl, l, vs, _, _, rfl, rfl, x4.seqL hF.seq, evz, a1, _, _, _, rfl, rfl, stz, at0, rfl, ?_⟩
        have ho4 := n4.lst (n3.lst ho2)
        have st4 := n4.seqT (n3.seqT st2)
        refine ⟨.ref o, rfl, .inl ⟨rfl, _, SqL.of ho4⟩, _, rfl, a, _, _, _, rfl, rfl, st4, at1, o, _, _, rfl, rfl, ho4, lt_line (by rw [List.length_map]; omega), ?_⟩
        have x5 := (x4 : Ext T0 H _).put (o := .lst (st.seen.map V.str ++ [.str s])) no0
        have hd4 := n4.dk (n3.dk hd2)
        have hdo : d ≠ o := ne_of hd4 ho4 (by intro z; cases z)
        refine ⟨_, rfl, _, rfl, l, i, vs, fs, rfl, hF.ext x5, fun H6 x6 => ?_⟩
        refine ⟨_, rfl, _, rfl, ifF (by decide +kernel) ?_⟩
        refine ⟨ckNext st (.game s) (fs.drop (i + 1)), _, _, _, rfl, x5.trans x6, ?_, ?_, ckn, rfl, pnext, ?_⟩
        · refine x6.dk ?_
          rw [upd_ne hdo]
          exact hd4
        · refine x6.lst ?_
          rw [upd_same]
          show some (HO.lst (st.seen.map V.str ++ [.str s])) = some (.lst ((st.seen ++ [s]).map V.str))
          rw [List.map_append]
          rfl
        · show (st.seen ++ [s]).length ≤ i + 1
          rw [List.length_append, List.length_singleton]
          omega
      | state r =>
        obtain ⟨a, y, rfl, st2, hy⟩ := dt_state hf2
        obtain ⟨hf1, hsz, hpl, hsm, htot⟩ := hlo
        have hb := nfirst hf1
        refine ⟨_, rfl, rfl, _, rfl, a, _, _, _, rfl, rfl, st2, at0, rfl, rfl, ?_⟩
        refine ⟨_, rfl, a, _, _, _, rfl, rfl, st2, at0, rfl, _, rfl, ifF (by decide +kernel) ?_⟩
        refine ⟨_, rfl, a, _, _, _, rfl, rfl, st2, at0, rfl, _, rfl, ifF (by decide +kernel) ?_⟩
        refine ⟨_, rfl, a, _, _, _, rfl, rfl, st2, at0, rfl, _, rfl, ifT (decide_eq_true rfl) ?_⟩
        refine ⟨_, rfl, _, rfl, ifF (by rw [show decide (V.str ("state" : Str) = V.str "discount") = false by decide +kernel]; exact hb) ?_⟩
        obtain ⟨n, en⟩ : ∃ n, st.size = some n := by
          cases e : st.size with
          | none => exact absurd e hsz
          | some n => exact ⟨n, rfl⟩
        refine ⟨_, rfl, rfl, _, rfl, ifF (by rw [en]; rfl) ?_⟩
        refine ⟨_, rfl, _, rfl, ifF hpl ?_⟩
        refine ⟨_, rfl, _, rfl, l, i, vs, fs, rfl, hF.ext x2, hsm, fun v H3 x3 d3 => ?_⟩
        rw [htot] at d3
        refine ⟨sz2, fun t nt => ?_⟩
        have n4 := Ext.new (T := T0) (o := .tup [.int 1, .int 1]) nt
        have e11 : Dt K (upd H3 t (.tup [.int 1, .int 1])) (.ref t) (encR (1, 1)) := .newT nt (dp_rt 1 1)
        refine ⟨_, _, dt_dp (d3.ext n4), dt_dp e11, shaped_11, shaped_11, ?_⟩
        rw [eqv_11]
        refine ⟨_, rfl, _, rfl, ifF rfl ?_⟩
        exact ⟨ckNext st (.state r) (fs.drop (i + 1)), _, _, _, rfl, (x2.trans x3).trans n4, n4.dk (x3.dk hd2), n4.lst (x3.lst ho2), ckn, rfl, pnext, Nat.le_succ_of_le hseen⟩
      | to k r =>
        obtain ⟨a, y, rfl, st2, hy⟩ := dt_to hf2
        obtain ⟨hf1, hr0, ⟨n, en, hkn⟩, hpv⟩ := hlo
        have hb := nfirst hf1
        obtain ⟨j, rfl, hj⟩ : ∃ j, i = j + 1 ∧ ((∃ z, fs[j]? = some (.state z)) ∨ ∃ m z, fs[j]? = some (.to m z) ∧ m < k) := by
          rcases hpv with ⟨z, e⟩ | ⟨m, z, e, hm⟩
          · obtain ⟨j, e1, e2⟩ := hprev _ e
            exact ⟨j, e1, .inl ⟨z, e2⟩⟩
          · obtain ⟨j, e1, e2⟩ := hprev _ e
            exact ⟨j, e1, .inr ⟨m, z, e2, hm⟩⟩
        refine ⟨_, rfl, rfl, _, rfl, a, _, _, _, rfl, rfl, st2, at0, rfl, rfl, ?_⟩
        refine ⟨_, rfl, a, _, _, _, rfl, rfl, st2, at0, rfl, _, rfl, ifF (by decide +kernel) ?_⟩
        refine ⟨_, rfl, a, _, _, _, rfl, rfl, st2, at0, rfl, _, rfl, ifF (by decide +kernel) ?_⟩
        refine ⟨_, rfl, a, _, _, _, rfl, rfl, st2, at0, rfl, _, rfl, ifF (by decide +kernel) ?_⟩
        refine ⟨_, rfl, a, _, _, _, rfl, rfl, st2, at0, rfl, _, rfl, ifT (decide_eq_true rfl) ?_⟩
        refine ⟨_, rfl, _, rfl, ifF (by rw [show decide (V.str ("to" : Str) = V.str "discount") = false by decide +kernel]; exact hb) ?_⟩
        refine ⟨_, rfl, rfl, _, rfl, ifF (by rw [en]; rfl) ?_⟩
        refine ⟨_, rfl, _, rfl, _, rfl, l, j, n, k, r, vs, fs, by rw [en]; rfl, hF.ext x2, ef, hr0, hkn, hj, fun H3 x3 => ?_⟩
        refine ⟨_, rfl, _, rfl, ifF rfl ?_⟩
        exact ⟨ckNext st (.to k r) (fs.drop (j + 1 + 1)), _, _, _, rfl, x2.trans x3, x3.dk hd2, x3.lst ho2, ckn, rfl, pnext, Nat.le_succ_of_le hseen⟩
      | place s k =>
        obtain ⟨a, rfl, st2⟩ := dt_place hf2
        obtain ⟨hf1, n, hmem, hkn⟩ := hlo
        have hb := nfirst hf1
        have hval : valV ((cnts fs).map kk) (Sum.inr s : Key) = some (.int (n : Nat)) := val_mem (kk_nd hnd) (List.mem_map.mpr ⟨(s, n), hmem, rfl⟩)
        refine ⟨_, rfl, rfl, _, rfl, a, _, _, _, rfl, rfl, st2, at0, rfl, rfl, ?_⟩
        refine ⟨_, rfl, a, _, _, _, rfl, rfl, st2, at0, rfl, _, rfl, ifF (by decide +kernel) ?_⟩
        refine ⟨_, rfl, a, _, _, _, rfl, rfl, st2, at0, rfl, _, rfl, ifF (by decide +kernel) ?_⟩
        refine ⟨_, rfl, a, _, _, _, rfl, rfl, st2, at0, rfl, _, rfl, ifF (by decide +kernel) ?_⟩
        refine ⟨_, rfl, a, _, _, _, rfl, rfl, st2, at0, rfl, _, rfl, ifF (by decide +kernel) ?_⟩
        refine ⟨_, rfl, _, rfl, ifF (by rw [show decide (V.str ("place" : Str) = V.str "discount") = false by decide +kernel]; exact hb) ?_⟩
        refine ⟨_, rfl, a, _, _, _, rfl, rfl, st2, at1, _, rfl, d, _, rfl, DGet.k (k := Sum.inr s) hd2, _, rfl, ifF (by rw [hval]; rfl) ?_⟩
        refine ⟨_, rfl, a, _, _, _, rfl, rfl, st2, at2, _, rfl, _, rfl, a, _, _, _, rfl, rfl, st2, at1, d, .int (n : Nat), rfl, ?_, ?_⟩
        · rw [← hval]
          exact DGet.k (k := Sum.inr s) hd2
        · refine ⟨_, _, rfl, rfl, _, rfl, _, rfl, ifF (decide_eq_false (by omega)) ?_⟩
          exact ⟨ckNext st (.place s k) (fs.drop (i + 1)), _, _, _, rfl, x2, hd2, ho2, ckn, rfl, pnext, Nat.le_succ_of_le hseen⟩
    · rintro σ H' ⟨st, y5, y6, y7, rfl, x1, _⟩
      exact q _ x1
end
end Bk

namespace Bk
open PySem PySem.Spec PyProof.Rows L2 GxR TL
theorem cut_init (xs : List V) (v : V) : cutV (xs ++ [v]) none (some (-1)) = xs := by
  unfold cutV
  have h1 : HT.sIx (xs ++ [v]).length (xs ++ [v]).length (some (-1)) = xs.length := by
    show (if (-1 : Int) < 0 then ((-1 : Int) + ((xs ++ [v]).length : Int)).toNat else min (-1 : Int).toNat (xs ++ [v]).length) = _
    rw [if_pos (by decide), List.length_append, List.length_singleton]
    omega
  rw [h1, HT.sIx_none, List.drop_zero, Nat.sub_zero, List.take_left]
theorem snoc_of_ne {α : Type} {l : List α} (h : l ≠ []) : ∃ r x, l = r ++ [x] := ⟨_, _, (List.dropLast_concat_getLast h).symm⟩
section
variable {P : Program} {w : World} {K : PySem.W.Frag} {mg : Str → Option Value} {base : Heap} {T0 c0 : Addr} {tD tL : Tok}
/-! ### read_lines -/
abbrev s_read_lines : Stmt := top 19
theorem sc_read_lines : FnScope ["text", "lines", "forms", "at", "line", "form"] ["text"] (defScope s_read_lines) := ⟨rfl, rfl, rfl, by decide +kernel, rfl, by decide +kernel, by decide +kernel⟩
def spLines (T0 : Addr) (K : PySem.W.Frag) : Sp := fun us H Q _ => ∃ (z : Str) (fs : List Fm), us = [.str z] ∧ tl z = textL fs ∧ (∀ f ∈ fs, FOk f) ∧ fs ≠ [] ∧ fs.length ≤ 5000 ∧ TabG H T0 ∧ ∀ l vs H', Ext T0 H H' → Forms K H' l vs fs → Q (.ref l) H'
theorem tl_nl : tl ("\n" : Str) = [10] := by decide +kernel
theorem empty_str : (⟨([] : List Nat).toArray⟩ : Str) = "" := by decide +kernel
theorem ok_read_lines (D : At K mg "read_lines" s_read_lines) (T : Nm mg tD tL) (G_read_line : Ok P w K mg base 4 "read_line" ["line"] (spLine T0 K)) : Ok P w K mg base 5 "read_lines" ["text"] (spLines T0 K) := by
  refine D.ok sc_read_lines (fun _ _ _ _ _ _ us hl => match us, hl with | [_], _ => rfl) (fun vs H Q E h => ?_) (fun f cdv A outer s H us Q E hr h => ?_)
  · obtain ⟨_, _, rfl, _⟩ := h
    rfl
  · obtain ⟨z, fs, rfl, ez, hok, hne, hlen, hT, q⟩ := h
    refine ⟨_, (pss_cons (ps_set (i := 1) sc_read_lines.nd rfl (Or.inl rfl) (pe_split (pv 0) pe_str))
  (pss_cons (ps_set (i := 2) sc_read_lines.nd rfl (Or.inl rfl) (pe_lst pa_nil))
  (pss_cons (ps_for PassesOwn.never rfl (pi_enum (by rfl) T.n_enumerate (pa_cons (pe_slice sl_list (pv 1) po_none (po_some (pe_un un_neg pe_int))) pa_nil)) (pg_tup rfl (pgs_cons (pg_name (i := 3) sc_read_lines.nd rfl (Or.inl rfl)) (pgs_cons (pg_name (i := 4) sc_read_lines.nd rfl (Or.inl rfl)) pgs_nil)))
  (pss_cons (ps_set (i := 5) sc_read_lines.nd rfl (Or.inl rfl) (pe_own G_read_line (hr.mono (by decide)) (by rfl) (pa_cons (pv 4) pa_nil)))
  (pss_cons (ps_if (pt_cmpR op_isN (pv 5) pe_non (nomark _))
  (pss_one ps_never)
  pss_nil)
  (pss_one (ps_expr (pe_bm PySem.F.plainAttrs_list PySem.F.slot_list_append PySem.F.type_list_append mt_append (pv 2) (pa_cons (pv 5) pa_nil)))))))
  (pss_cons (ps_if (PW.pt (pw_or (pt_cmpR op_ne (pe_ix ix_list (pv 1) (pe_un un_neg pe_int) (fun _ _ => rfl)) pe_str (nomark _)) (pw_or1 (pt_not (pt_truth (pv 2) (by intro _; rfl))))))
  (pss_one ps_never)
  pss_nil)
  (pss_one (ps_ret (pv 2))))))), ?_⟩
    have hz : z.length ≤ 1100000 := by
      have := textL_len hok
      rw [len_tl, ez]
      omega
    have esp := split_words (z := z) (y := "\n") tl_nl (by decide +kernel) ez (by simp) (lines_free hok)
    refine ⟨_, rfl, ⟨_, rfl⟩, z, "\n", rfl, rfl, by decide +kernel, by rw [sizeLine_eq]; omega, fun p np => ?_⟩
    have ews : (Txt.split z "\n").map V.str = (fs.map fun f => V.str ⟨(lineL f).toArray⟩) ++ [V.str ""] := by
      rw [esp, List.map_append, List.map_append, List.map_map, List.map_map]
      show _ ++ [V.str ⟨([] : List Nat).toArray⟩] = _
      rw [empty_str]
      rfl
    rw [ews]
    have n1 := Ext.new (T := T0) (o := .lst ((fs.map fun f => V.str ⟨(lineL f).toArray⟩) ++ [V.str ""])) np
    refine ⟨sz0, fun o no => ?_⟩
    have n2 := Ext.new (T := T0) (o := .lst []) no
    have no0 := n1.free o no
    refine ⟨_, rfl, _, rfl, _, rfl, p, _, rfl, SqL.of (n2.lst upd_same), fun c nc => ?_⟩
    rw [cut_init]
    have n3 := Ext.new (T := T0) (o := .lst (fs.map fun f => V.str ⟨(lineL f).toArray⟩)) nc
    refine ⟨c, _, rfl, SqL.of upd_same, for_enum (K := K) (a := c) (xs := fs.map fun f => V.str ⟨(lineL f).toArray⟩) (fun i σ H' => ∃ (vs : List V) (y3 y4 y5 : Option V), σ = [some (.str z), some (.ref p), some (.ref o), y3, y4, y5] ∧ Ext T0 H H' ∧
        H' p = some (.lst ((fs.map fun f => V.str ⟨(lineL f).toArray⟩) ++ [V.str ""])) ∧ H' c = some (.lst (fs.map fun f => V.str ⟨(lineL f).toArray⟩)) ∧ H' o = some (.lst vs) ∧ DtAll K H' vs ((fs.take i).map encF))
      ⟨[], none, none, none, rfl, (n1.trans n2).trans n3, n3.lst (n2.lst upd_same), upd_same, n3.lst upd_same, .nil⟩ (fun i σ H' _ ⟨_, _, _, _, _, _, _, hc, _⟩ => SqL.of hc) ?_ ?_⟩
    · rintro i x u σ H' hx ⟨vs, y3, y4, y5, rfl, x1, hp, hc, ho, hall⟩ nu
      rw [List.getElem?_map] at hx
      cases ef : fs[i]? with
      | none =>
        rw [ef] at hx
        cases hx
      | some f =>
        rw [ef] at hx
        cases hx
        have hfi : i < fs.length := (List.getElem?_eq_some_iff.mp ef).1
        have n4 := Ext.new (T := T0) (o := .tup [.int (i : Nat), .str ⟨(lineL f).toArray⟩]) nu
        refine ⟨u, _, rfl, SqT.of upd_same, rfl, _, _, rfl, _, _, rfl, rfl, ?_⟩
        refine ⟨_, rfl, _, f, rfl, rfl, hok f (List.mem_of_getElem? ef), n4.tab (x1.tab hT), fun v H3 x3 d3 => ?_⟩
        obtain ⟨a, r, rfl, _⟩ := dt_tag d3
        have x2 := x1.trans (n4.trans x3)
        have ho3 := x3.lst (n4.lst ho)
        refine ⟨_, rfl, rfl, _, rfl, ifF (decide_eq_false (by intro z; cases z)) ?_⟩
        have hvl : vs.length = i := by
          have := hall.length
          rw [List.length_map, List.length_take] at this
          omega
        refine ⟨_, rfl, .inl ⟨rfl, _, SqL.of ho3⟩, _, rfl, o, vs, _, rfl, rfl, ho3, lt_line (by omega), ?_⟩
        have hp3 := x3.lst (n4.lst hp)
        have hc3 := x3.lst (n4.lst hc)
        have npo : p ≠ o := fun e => by
          rw [e, ho3] at hp3
          have h5 := congrArg List.length (HO.lst.inj (Option.some.inj hp3))
          rw [List.length_append, List.length_map, List.length_singleton] at h5
          omega
        have nco : c ≠ o := fun e => by
          rw [e, ho3] at hc3
          have h5 := congrArg List.length (HO.lst.inj (Option.some.inj hc3))
          rw [List.length_map] at h5
          omega
        have tx := TupX.lst (o := .lst (vs ++ [.ref a])) ho3
        refine ⟨vs ++ [.ref a], _, _, _, rfl, x2.put no0, ?_, ?_, upd_same, ?_⟩
        · rw [upd_ne npo]
          exact hp3
        · rw [upd_ne nco]
          exact hc3
        · rw [take_at ef, List.map_append]
          exact ((hall.ext (n4.trans x3)).tx tx).snoc (d3.tx tx)
    · rintro σ H' ⟨vs, y3, y4, y5, rfl, x1, hp, hc, ho, hall⟩
      rw [List.length_map, List.take_length] at hall
      have hl := hall.length
      rw [List.length_map] at hl
      refine ⟨_, rfl, _, rfl, p, _, _, _, rfl, rfl, SqL.of hp, atI_last _ _, rfl, _, rfl, ifF (by rw [decide_eq_true rfl]; rfl) ?_⟩
      have hvs : vs.isEmpty = false := by
        cases vs with
        | nil => exact absurd (List.length_eq_zero_iff.mp hl.symm) hne
        | cons a r => rfl
      refine ⟨_, rfl, true, .inl ⟨vs, SqL.of ho, by rw [hvs]; rfl⟩, ifF rfl ?_⟩
      exact ⟨_, rfl, q o vs H' x1 ⟨SqL.of ho, hall⟩⟩
end
end Bk

/-! Games that are being put together: lists of lists of lists in the heap, no two at one address. -/
namespace Bk
open PySem PySem.Spec PyProof.Rows L2 GxR TL
abbrev Cell := Addr × Addr × List Addr
def fpC (c : Cell) : List Addr := c.1 :: c.2.1 :: c.2.2
section
variable {K : PySem.W.Frag}
inductive RowsRep (K : PySem.W.Frag) (H : Hp) : List Addr → List Row → Prop
  | nil : RowsRep K H [] []
  | cons {a : Addr} {as : List Addr} {r : Row} {rs : List Row} {tv : List V} : H a = some (.lst tv) → DtAll K H tv (r.map encT) → RowsRep K H as rs → RowsRep K H (a :: as) (r :: rs)
structure GRep (K : PySem.W.Frag) (H : Hp) (c : Cell) (g : Gm) : Prop where
  rew : ∃ rv, H c.1 = some (.lst rv) ∧ DtAll K H rv (g.map fun s => encR s.1)
  mov : H c.2.1 = some (.lst (c.2.2.map V.ref))
  row : RowsRep K H c.2.2 (g.map (·.2))
inductive GsRep (K : PySem.W.Frag) (H : Hp) : List Cell → List (Str × Gm) → Prop
  | nil : GsRep K H [] []
  | cons {c : Cell} {cs : List Cell} {g : Str × Gm} {gs : List (Str × Gm)} : GRep K H c g.2 → GsRep K H cs gs → GsRep K H (c :: cs) (g :: gs)
/-- lists of S and all tuples stand as they stood -/
structure Kp (S : List Addr) (H H1 : Hp) : Prop where
  l : ∀ a ∈ S, ∀ xs, H a = some (.lst xs) → H1 a = some (.lst xs)
  t : TupX H H1
theorem Kp.sub {S S' : List Addr} {H H1 : Hp} (k : Kp S H H1) (h : ∀ a ∈ S', a ∈ S) : Kp S' H H1 := ⟨fun a ha => k.l a (h a ha), k.t⟩
theorem Kp.trans {S : List Addr} {H H1 H2 : Hp} (a : Kp S H H1) (b : Kp S H1 H2) : Kp S H H2 := ⟨fun x hx xs e => b.l x hx xs (a.l x hx xs e), a.t.trans b.t⟩
theorem Kp.ext {T : Addr} {S : List Addr} {H H1 : Hp} (a : Ext T H H1) : Kp S H H1 := ⟨fun x _ xs e => a.lst e, a.tupX⟩
theorem Kp.new {S : List Addr} {H : Hp} {p : Addr} {o : HO} (h : H p = none) : Kp S H (upd H p o) := Kp.ext (T := 0) (Ext.new h)
theorem Kp.put {S : List Addr} {H : Hp} {p : Addr} {o : HO} {ys : List V} (h : H p = some (.lst ys)) (hp : p ∉ S) : Kp S H (upd H p o) :=
  ⟨fun a ha xs e => by rw [upd_ne (fun z => hp (by rw [← z]; exact ha))]; exact e, TupX.lst h⟩
theorem RowsRep.kp {H H1 : Hp} : ∀ {as : List Addr} {rs : List Row}, RowsRep K H as rs → Kp as H H1 → RowsRep K H1 as rs
  | _, _, .nil, _ => .nil
  | _, _, .cons h d r, k => .cons (k.l _ (List.mem_cons_self ..) _ h) (d.tx k.t) (RowsRep.kp r (k.sub fun a ha => List.mem_cons_of_mem _ ha))
theorem GRep.kp {H H1 : Hp} {c : Cell} {g : Gm} (h : GRep K H c g) (k : Kp (fpC c) H H1) : GRep K H1 c g := by
  obtain ⟨rv, e, d⟩ := h.rew
  exact ⟨⟨rv, k.l _ (List.mem_cons_self ..) _ e, d.tx k.t⟩, k.l _ (List.mem_cons_of_mem _ (List.mem_cons_self ..)) _ h.mov, h.row.kp (k.sub fun a ha => List.mem_cons_of_mem _ (List.mem_cons_of_mem _ ha))⟩
theorem GsRep.kp {H H1 : Hp} : ∀ {cs : List Cell} {gs : List (Str × Gm)}, GsRep K H cs gs → Kp (cs.flatMap fpC) H H1 → GsRep K H1 cs gs
  | _, _, .nil, _ => .nil
  | _, _, .cons h r, k => .cons (h.kp (k.sub fun a ha => by rw [List.flatMap_cons]; exact List.mem_append_left _ ha)) (GsRep.kp r (k.sub fun a ha => by rw [List.flatMap_cons]; exact List.mem_append_right _ ha))
theorem RowsRep.snoc {H : Hp} {a : Addr} {r : Row} {tv : List V} (h : H a = some (.lst tv)) (d : DtAll K H tv (r.map encT)) : ∀ {as : List Addr} {rs : List Row}, RowsRep K H as rs → RowsRep K H (as ++ [a]) (rs ++ [r])
  | _, _, .nil => .cons h d .nil
  | _, _, .cons h' d' r' => .cons h' d' (RowsRep.snoc h d r')
theorem RowsRep.inv {H : Hp} {r : Row} : ∀ {rs : List Row} {as : List Addr}, RowsRep K H as (rs ++ [r]) → ∃ as0 a tv, as = as0 ++ [a] ∧ RowsRep K H as0 rs ∧ H a = some (.lst tv) ∧ DtAll K H tv (r.map encT)
  | [], _, .cons h d .nil => ⟨[], _, _, rfl, .nil, h, d⟩
  | x :: rs, _, .cons h d q => by
    obtain ⟨as0, a, tv, e, q1, h1, d1⟩ := RowsRep.inv q
    exact ⟨_ :: as0, a, tv, by rw [e]; rfl, .cons h d q1, h1, d1⟩
theorem GsRep.snoc {H : Hp} {c : Cell} {g : Str × Gm} (h : GRep K H c g.2) : ∀ {cs : List Cell} {gs : List (Str × Gm)}, GsRep K H cs gs → GsRep K H (cs ++ [c]) (gs ++ [g])
  | _, _, .nil => .cons h .nil
  | _, _, .cons h' r' => .cons h' (GsRep.snoc h r')
theorem GsRep.inv {H : Hp} {g : Str × Gm} : ∀ {gs : List (Str × Gm)} {cs : List Cell}, GsRep K H cs (gs ++ [g]) → ∃ cs0 c, cs = cs0 ++ [c] ∧ GsRep K H cs0 gs ∧ GRep K H c g.2
  | [], _, .cons h .nil => ⟨[], _, rfl, .nil, h⟩
  | x :: gs, _, .cons h q => by
    obtain ⟨cs0, c, e, q1, h1⟩ := GsRep.inv q
    exact ⟨_ :: cs0, c, by rw [e]; rfl, .cons h q1, h1⟩
theorem GsRep.len {H : Hp} : ∀ {cs : List Cell} {gs : List (Str × Gm)}, GsRep K H cs gs → cs.length = gs.length
  | _, _, .nil => rfl
  | _, _, .cons _ r => by rw [List.length_cons, List.length_cons, GsRep.len r]
theorem RowsRep.len {H : Hp} : ∀ {cs : List Addr} {gs : List Row}, RowsRep K H cs gs → cs.length = gs.length
  | _, _, .nil => rfl
  | _, _, .cons _ _ r => by rw [List.length_cons, List.length_cons, RowsRep.len r]
theorem GsRep.at {H : Hp} : ∀ {cs : List Cell} {gs : List (Str × Gm)} {i : Nat} {g : Str × Gm}, GsRep K H cs gs → gs[i]? = some g → ∃ c, cs[i]? = some c ∧ GRep K H c g.2
  | _, _, _, _, .nil, e => by simp at e
  | _, _, 0, _, .cons h _, e => by
    simp at e
    subst e
    exact ⟨_, rfl, h⟩
  | _, _, i + 1, g, .cons _ r, e => by
    obtain ⟨c, e1, h1⟩ := GsRep.at (i := i) (g := g) r (by simpa using e)
    exact ⟨c, by simpa using e1, h1⟩
theorem RowsRep.at {H : Hp} : ∀ {cs : List Addr} {gs : List Row} {i : Nat} {g : Row}, RowsRep K H cs gs → gs[i]? = some g → ∃ c tv, cs[i]? = some c ∧ H c = some (.lst tv) ∧ DtAll K H tv (g.map encT)
  | _, _, _, _, .nil, e => by simp at e
  | _, _, 0, _, .cons h d _, e => by
    simp at e
    subst e
    exact ⟨_, _, rfl, h, d⟩
  | _, _, i + 1, g, .cons _ _ r, e => by
    obtain ⟨c, tv, e1, h1, d1⟩ := RowsRep.at (i := i) (g := g) r (by simpa using e)
    exact ⟨c, tv, by simpa using e1, h1, d1⟩
/-- names, rewards, moves and places while a book is put together -/
structure Rep (K : PySem.W.Frag) (H : Hp) (nl rl ml pl : Addr) (cs : List Cell) (gs : List (Str × Gm)) (ps : List (Str × Nat)) : Prop where
  nd : (nl :: rl :: ml :: pl :: cs.flatMap fpC).Nodup
  n : H nl = some (.lst (gs.map fun g => V.str g.1))
  r : H rl = some (.lst (cs.map fun c => V.ref c.1))
  m : H ml = some (.lst (cs.map fun c => V.ref c.2.1))
  p : ∃ pvs, H pl = some (.lst pvs) ∧ DtAll K H pvs (ps.map encP)
  g : GsRep K H cs gs
theorem RowsRep.live {H : Hp} : ∀ {as : List Addr} {rs : List Row}, RowsRep K H as rs → ∀ a ∈ as, H a ≠ none
  | _, _, .nil, a, h => by cases h
  | _, _, .cons h _ r, a, ha => by
    rcases List.mem_cons.mp ha with e | ha
    · rw [e, h]
      simp
    · exact RowsRep.live r a ha
theorem GRep.live {H : Hp} {c : Cell} {g : Gm} (h : GRep K H c g) : ∀ a ∈ fpC c, H a ≠ none := by
  intro a ha
  rcases List.mem_cons.mp ha with e | ha
  · obtain ⟨rv, e2, _⟩ := h.rew
    rw [e, e2]
    simp
  · rcases List.mem_cons.mp ha with e | ha
    · rw [e, h.mov]
      simp
    · exact h.row.live a ha
theorem GsRep.live {H : Hp} : ∀ {cs : List Cell} {gs : List (Str × Gm)}, GsRep K H cs gs → ∀ a ∈ cs.flatMap fpC, H a ≠ none
  | _, _, .nil, a, h => by cases h
  | _, _, .cons h r, a, ha => by
    rw [List.flatMap_cons] at ha
    rcases List.mem_append.mp ha with ha | ha
    · exact h.live a ha
    · exact GsRep.live r a ha
theorem Rep.live {H : Hp} {nl rl ml pl : Addr} {cs : List Cell} {gs : List (Str × Gm)} {ps : List (Str × Nat)} (h : Rep K H nl rl ml pl cs gs ps) : ∀ a ∈ nl :: rl :: ml :: pl :: cs.flatMap fpC, H a ≠ none := by
  intro a ha
  obtain ⟨pvs, ep, _⟩ := h.p
  rcases List.mem_cons.mp ha with e | ha
  · rw [e, h.n]; simp
  rcases List.mem_cons.mp ha with e | ha
  · rw [e, h.r]; simp
  rcases List.mem_cons.mp ha with e | ha
  · rw [e, h.m]; simp
  rcases List.mem_cons.mp ha with e | ha
  · rw [e, ep]; simp
  exact h.g.live a ha
theorem Rep.kp {H H1 : Hp} {nl rl ml pl : Addr} {cs : List Cell} {gs : List (Str × Gm)} {ps : List (Str × Nat)} (h : Rep K H nl rl ml pl cs gs ps) (k : Kp (nl :: rl :: ml :: pl :: cs.flatMap fpC) H H1) : Rep K H1 nl rl ml pl cs gs ps := by
  obtain ⟨pvs, ep, dp⟩ := h.p
  exact ⟨h.nd, k.l _ (by simp) _ h.n, k.l _ (by simp) _ h.r, k.l _ (by simp) _ h.m, ⟨pvs, k.l _ (by simp) _ ep, dp.tx k.t⟩, h.g.kp (k.sub fun a ha => by simp only [List.mem_cons]; exact .inr (.inr (.inr (.inr ha))))⟩
/-- apart by the list of all addresses -/
theorem nd_four {a b c d : Addr} {l : List Addr} (h : (a :: b :: c :: d :: l).Nodup) : a ≠ b ∧ a ≠ c ∧ a ≠ d ∧ b ≠ c ∧ b ≠ d ∧ c ≠ d ∧ a ∉ l ∧ b ∉ l ∧ c ∉ l ∧ d ∉ l ∧ l.Nodup := by
  simp only [List.nodup_cons, List.mem_cons, not_or] at h
  obtain ⟨⟨h1, h2, h3, h4⟩, ⟨h5, h6, h7⟩, ⟨h8, h9⟩, h10, h11⟩ := h
  exact ⟨h1, h2, h3, h5, h6, h8, h4, h7, h9, h10, h11⟩
theorem nd_four' {a b c d : Addr} {l l' : List Addr} (h : (a :: b :: c :: d :: l).Nodup) (h1 : a ∉ l') (h2 : b ∉ l') (h3 : c ∉ l') (h4 : d ∉ l') (h5 : l'.Nodup) : (a :: b :: c :: d :: l').Nodup := by
  obtain ⟨q1, q2, q3, q4, q5, q6, _⟩ := nd_four h
  simp only [List.nodup_cons, List.mem_cons, not_or]
  exact ⟨⟨q1, q2, q3, h1⟩, ⟨q4, q5, h2⟩, ⟨q6, h3⟩, h4, h5⟩
/-- a name and two new lists -/
theorem Rep.game {H : Hp} {nl rl ml pl r0 m0 : Addr} {cs : List Cell} {gs : List (Str × Gm)} {ps : List (Str × Nat)} (h : Rep K H nl rl ml pl cs gs ps) (s : Str)
    (nr : upd H nl (.lst ((gs.map fun g => V.str g.1) ++ [.str s])) r0 = none)
    (nm : upd (upd (upd H nl (.lst ((gs.map fun g => V.str g.1) ++ [.str s]))) r0 (.lst [])) rl (.lst ((cs.map fun c => V.ref c.1) ++ [.ref r0])) m0 = none) :
    Rep K (upd (upd (upd (upd (upd H nl (.lst ((gs.map fun g => V.str g.1) ++ [.str s]))) r0 (.lst [])) rl (.lst ((cs.map fun c => V.ref c.1) ++ [.ref r0]))) m0 (.lst [])) ml (.lst ((cs.map fun c => V.ref c.2.1) ++ [.ref m0]))) nl rl ml pl (cs ++ [(r0, m0, [])]) (gs ++ [(s, [])]) ps := by
  obtain ⟨d1, d2, d3, d4, d5, d6, e1, e2, e3, e4, e5⟩ := nd_four h.nd
  have hlive := h.live
  obtain ⟨pvs, ep, dp⟩ := h.p
  -- where the new addresses don't lie
  have r0nl : r0 ≠ nl := fun z => by rw [z, upd_same] at nr; cases nr
  have r0H : H r0 = none := by rw [upd_ne r0nl] at nr; exact nr
  have r0out : ∀ a ∈ nl :: rl :: ml :: pl :: cs.flatMap fpC, r0 ≠ a := fun a ha z => hlive a ha (by rw [← z]; exact r0H)
  have m0rl : m0 ≠ rl := fun z => by rw [z, upd_same] at nm; cases nm
  have m0r0 : m0 ≠ r0 := fun z => by rw [upd_ne m0rl, z, upd_same] at nm; cases nm
  have m0nl : m0 ≠ nl := fun z => by rw [upd_ne m0rl, upd_ne m0r0, z, upd_same] at nm; cases nm
  have m0H : H m0 = none := by rw [upd_ne m0rl, upd_ne m0r0, upd_ne m0nl] at nm; exact nm
  have m0out : ∀ a ∈ nl :: rl :: ml :: pl :: cs.flatMap fpC, m0 ≠ a := fun a ha z => hlive a ha (by rw [← z]; exact m0H)
  have r1 := r0out nl (by simp); have r2 := r0out rl (by simp); have r3 := r0out ml (by simp); have r4 := r0out pl (by simp)
  have m1 := m0out nl (by simp); have m2 := m0out rl (by simp); have m3 := m0out ml (by simp); have m4 := m0out pl (by simp)
  have r5 : r0 ∉ cs.flatMap fpC := fun z => r0out r0 (by simp only [List.mem_cons]; exact .inr (.inr (.inr (.inr z)))) rfl
  have m5 : m0 ∉ cs.flatMap fpC := fun z => m0out m0 (by simp only [List.mem_cons]; exact .inr (.inr (.inr (.inr z)))) rfl
  have n1 : upd (upd H nl (.lst ((gs.map fun g => V.str g.1) ++ [.str s]))) r0 (.lst []) rl = some (.lst (cs.map fun c => V.ref c.1)) := by rw [upd_ne r2.symm, upd_ne d1.symm]; exact h.r
  -- the way of the lists that stay
  have kA : Kp (cs.flatMap fpC) H (upd H nl (.lst ((gs.map fun g => V.str g.1) ++ [.str s]))) := Kp.put h.n e1
  have kB := kA.trans (Kp.new (o := .lst []) nr)
  have kC := kB.trans (Kp.put (o := .lst ((cs.map fun c => V.ref c.1) ++ [.ref r0])) n1 e2)
  have kD := kC.trans (Kp.new (o := .lst []) nm)
  have n2 : upd (upd (upd (upd H nl (.lst ((gs.map fun g => V.str g.1) ++ [.str s]))) r0 (.lst [])) rl (.lst ((cs.map fun c => V.ref c.1) ++ [.ref r0]))) m0 (.lst []) ml = some (.lst (cs.map fun c => V.ref c.2.1)) := by
    rw [upd_ne m3.symm, upd_ne d4.symm, upd_ne r3.symm, upd_ne d2.symm]; exact h.m
  have kE := kD.trans (Kp.put (o := .lst ((cs.map fun c => V.ref c.2.1) ++ [.ref m0])) n2 e3)
  have ef : (cs ++ [((r0, m0, []) : Cell)]).flatMap fpC = cs.flatMap fpC ++ [r0, m0] := by
    rw [List.flatMap_append]
    rfl
  refine ⟨?_, ?_, ?_, ?_, ⟨pvs, ?_, dp.tx kE.t⟩, ?_⟩
  · rw [ef]
    have app : ∀ a : Addr, a ∉ cs.flatMap fpC → r0 ≠ a → m0 ≠ a → a ∉ cs.flatMap fpC ++ [r0, m0] := fun a h1 h2 h3 z => by
      rcases List.mem_append.mp z with z | z
      · exact h1 z
      · simp only [List.mem_cons, List.not_mem_nil, or_false] at z
        rcases z with z | z
        · exact h2 z.symm
        · exact h3 z.symm
    refine nd_four' h.nd (app _ e1 r1 m1) (app _ e2 r2 m2) (app _ e3 r3 m3) (app _ e4 r4 m4) ?_
    refine List.nodup_append.mpr ⟨e5, by simp [m0r0.symm], fun a ha b hb z => ?_⟩
    simp only [List.mem_cons, List.not_mem_nil, or_false] at hb
    rcases hb with hb | hb
    · rw [z, hb] at ha
      exact r5 ha
    · rw [z, hb] at ha
      exact m5 ha
  · rw [upd_ne d2, upd_ne m1.symm, upd_ne d1, upd_ne r1.symm, upd_same, List.map_append]
    rfl
  · rw [upd_ne d4, upd_ne m2.symm, upd_same, List.map_append]
    rfl
  · rw [upd_same, List.map_append]
    rfl
  · rw [upd_ne d6.symm, upd_ne m4.symm, upd_ne d5.symm, upd_ne r4.symm, upd_ne d3.symm]
    exact ep
  · refine GsRep.snoc ⟨⟨[], ?_, .nil⟩, ?_, .nil⟩ (h.g.kp kE)
    · rw [upd_ne (show r0 ≠ ml from r3), upd_ne m0r0.symm, upd_ne (show r0 ≠ rl from r2), upd_same]
    · show _ = some (HO.lst [])
      rw [upd_ne (show m0 ≠ ml from m3), upd_same]
/-- a place -/
theorem Rep.place {H : Hp} {nl rl ml pl t : Addr} {cs : List Cell} {gs : List (Str × Gm)} {ps : List (Str × Nat)} {pvs : List V} (h : Rep K H nl rl ml pl cs gs ps) (s : Str) (k : Nat) (ep : H pl = some (.lst pvs)) (nt : H t = none) :
    Rep K (upd (upd H t (.tup [.str s, .int k])) pl (.lst (pvs ++ [.ref t]))) nl rl ml pl cs gs (ps ++ [(s, k)]) := by
  obtain ⟨d1, d2, d3, d4, d5, d6, e1, e2, e3, e4, e5⟩ := nd_four h.nd
  obtain ⟨pvs', ep', dp⟩ := h.p
  rw [ep] at ep'
  cases ep'
  have h1 := h.kp (Kp.new (o := .tup [.str s, .int k]) nt)
  have ep1 : upd H t (.tup [.str s, .int k]) pl = some (.lst pvs) := by rw [upd_ne (ne_of_none ep nt)]; exact ep
  have tx := TupX.lst (o := .lst (pvs ++ [.ref t])) ep1
  refine ⟨h.nd, by rw [upd_ne d3]; exact h1.n, by rw [upd_ne d5]; exact h1.r, by rw [upd_ne d6]; exact h1.m, ⟨_, upd_same, ?_⟩, h1.g.kp (Kp.put ep1 e4)⟩
  rw [List.map_append]
  have dt : Dt K (upd H t (.tup [.str s, .int k])) (.ref t) (encP (s, k)) := .newT nt (.cons (.str _) (.cons (.int _) .nil))
  exact ((dp.ext (Ext.new (T := 0) nt)).tx tx).snoc (dt.tx tx)
/-- a reward, and a new row -/
theorem Rep.state {H : Hp} {nl rl ml pl r0 m0 w0 : Addr} {ws : List Addr} {cs : List Cell} {gs : List (Str × Gm)} {ps : List (Str × Nat)} {s : Str} {sts : Gm} {rv : List V} {v : V} {q : Rt}
    (h : Rep K H nl rl ml pl (cs ++ [(r0, m0, ws)]) (gs ++ [(s, sts)]) ps) (er : H r0 = some (.lst rv)) (dv : Dt K H v (encR q)) (nw : upd H r0 (.lst (rv ++ [v])) w0 = none) :
    Rep K (upd (upd (upd H r0 (.lst (rv ++ [v]))) w0 (.lst [])) m0 (.lst (ws.map V.ref ++ [.ref w0]))) nl rl ml pl (cs ++ [(r0, m0, ws ++ [w0])]) (gs ++ [(s, sts ++ [(q, [])])]) ps := by
  obtain ⟨d1, d2, d3, d4, d5, d6, e1, e2, e3, e4, e5⟩ := nd_four h.nd
  have hlive := h.live
  have ef : ∀ ws', (cs ++ [((r0, m0, ws') : Cell)]).flatMap fpC = cs.flatMap fpC ++ (r0 :: m0 :: ws') := fun ws' => by
    rw [List.flatMap_append]
    show _ ++ ((r0 :: m0 :: ws') ++ []) = _
    rw [List.append_nil]
  rw [ef] at e1 e2 e3 e4 e5 hlive
  obtain ⟨cs0, c, ec, hg, hc⟩ := h.g.inv
  obtain ⟨rfl, rfl⟩ : cs = cs0 ∧ ((r0, m0, ws) : Cell) = c := by
    have := List.append_inj' ec rfl
    exact ⟨this.1, (List.cons.inj this.2).1⟩
  obtain ⟨rv', er', dr⟩ := hc.rew
  have er'' : H r0 = some (.lst rv') := er'
  rw [er] at er''
  cases er''
  have em : H m0 = some (.lst (ws.map V.ref)) := hc.mov
  have w0r : w0 ≠ r0 := fun z => by rw [z, upd_same] at nw; cases nw
  have w0H : H w0 = none := by rw [upd_ne w0r] at nw; exact nw
  have wout : ∀ a, H a ≠ none → w0 ≠ a := fun a ha z => ha (by rw [← z]; exact w0H)
  have w0m : w0 ≠ m0 := wout m0 (by rw [em]; simp)
  obtain ⟨f1, f2, f3⟩ := List.nodup_append.mp e5
  have g1 := List.nodup_cons.mp f2
  have g2 := List.nodup_cons.mp g1.2
  have r0m : r0 ≠ m0 := fun z => g1.1 (by rw [z]; exact List.mem_cons_self ..)
  have r0ws : r0 ∉ ws := fun z => g1.1 (List.mem_cons_of_mem _ z)
  have m0ws : m0 ∉ ws := g2.1
  have r0cs : r0 ∉ cs.flatMap fpC := fun z => f3 _ z _ (List.mem_cons_self ..) rfl
  have m0cs : m0 ∉ cs.flatMap fpC := fun z => f3 _ z _ (List.mem_cons_of_mem _ (List.mem_cons_self ..)) rfl
  have w0ws : w0 ∉ ws := fun z => hc.row.live w0 z w0H
  have w0cs : w0 ∉ cs.flatMap fpC := fun z => hg.live w0 z w0H
  have m1 : upd (upd H r0 (.lst (rv ++ [v]))) w0 (.lst []) m0 = some (.lst (ws.map V.ref)) := by rw [upd_ne w0m.symm, upd_ne r0m.symm]; exact em
  -- what stays
  have kS : ∀ S : List Addr, r0 ∉ S → m0 ∉ S → Kp S H (upd (upd (upd H r0 (.lst (rv ++ [v]))) w0 (.lst [])) m0 (.lst (ws.map V.ref ++ [.ref w0]))) := fun S h1 h2 =>
    ((Kp.put er h1).trans (Kp.new nw)).trans (Kp.put m1 h2)
  have ne4 : ∀ a, a ∉ cs.flatMap fpC ++ r0 :: m0 :: ws → r0 ≠ a ∧ m0 ≠ a := fun a ha =>
    ⟨fun z => ha (List.mem_append_right _ (by rw [← z]; exact List.mem_cons_self ..)), fun z => ha (List.mem_append_right _ (by rw [← z]; exact List.mem_cons_of_mem _ (List.mem_cons_self ..)))⟩
  have k4 : ∀ a, a ∉ cs.flatMap fpC ++ r0 :: m0 :: ws → Kp [a] H (upd (upd (upd H r0 (.lst (rv ++ [v]))) w0 (.lst [])) m0 (.lst (ws.map V.ref ++ [.ref w0]))) := fun a ha =>
    kS [a] (by simp [(ne4 a ha).1]) (by simp [(ne4 a ha).2])
  obtain ⟨pvs, ep, dp⟩ := h.p
  have one : ∀ a : Addr, a ∈ [a] := fun a => List.mem_singleton.mpr rfl
  have tx := (k4 pl e4).t
  refine ⟨?_, ?_, ?_, ?_, ⟨pvs, (k4 pl e4).l _ (one _) _ ep, dp.tx tx⟩, ?_⟩
  · rw [ef]
    have app : ∀ a : Addr, a ∉ cs.flatMap fpC ++ r0 :: m0 :: ws → w0 ≠ a → a ∉ cs.flatMap fpC ++ r0 :: m0 :: (ws ++ [w0]) := fun a h1 h2 z => by
      rcases List.mem_append.mp z with z | z
      · exact h1 (List.mem_append_left _ z)
      · have z' : a ∈ (r0 :: m0 :: ws) ++ [w0] := z
        rcases List.mem_append.mp z' with z | z
        · exact h1 (List.mem_append_right _ z)
        · exact h2 (List.mem_singleton.mp z).symm
    refine nd_four' h.nd (app _ e1 (wout _ (hlive _ (by simp)))) (app _ e2 (wout _ (hlive _ (by simp)))) (app _ e3 (wout _ (hlive _ (by simp)))) (app _ e4 (wout _ (hlive _ (by simp)))) ?_
    have el : cs.flatMap fpC ++ r0 :: m0 :: (ws ++ [w0]) = (cs.flatMap fpC ++ r0 :: m0 :: ws) ++ [w0] := by
      rw [List.append_assoc]
      rfl
    rw [el]
    refine List.nodup_append.mpr ⟨e5, by simp, fun a ha b hb z => ?_⟩
    rw [z, List.mem_singleton.mp hb] at ha
    rcases List.mem_append.mp ha with ha | ha
    · exact w0cs ha
    · rcases List.mem_cons.mp ha with ha | ha
      · exact w0r ha
      · rcases List.mem_cons.mp ha with ha | ha
        · exact w0m ha
        · exact w0ws ha
  · have := (k4 nl e1).l _ (one _) _ h.n
    rw [this, List.map_append, List.map_append]
    rfl
  · have := (k4 rl e2).l _ (one _) _ h.r
    rw [this, List.map_append, List.map_append]
    rfl
  · have := (k4 ml e3).l _ (one _) _ h.m
    rw [this, List.map_append, List.map_append]
    rfl
  · refine GsRep.snoc (g := (s, sts ++ [(q, [])])) ⟨⟨rv ++ [v], ?_, ?_⟩, ?_, ?_⟩ (hg.kp (kS _ r0cs m0cs))
    · show upd _ m0 _ r0 = _
      rw [upd_ne r0m, upd_ne w0r.symm, upd_same]
    · rw [List.map_append]
      exact (dr.tx tx).snoc (dv.tx tx)
    · show upd _ m0 _ m0 = some (HO.lst ((ws ++ [w0]).map V.ref))
      rw [upd_same, List.map_append]
      rfl
    · show RowsRep K _ (ws ++ [w0]) ((sts ++ [((q, []) : Rt × Row)]).map fun x : Rt × Row => x.2)
      rw [List.map_append]
      refine RowsRep.snoc (r := []) (tv := []) ?_ .nil (hc.row.kp (kS _ r0ws m0ws))
      rw [upd_ne w0m, upd_same]
/-- a move -/
theorem Rep.to {H : Hp} {nl rl ml pl r0 m0 w0 t : Addr} {ws : List Addr} {cs : List Cell} {gs : List (Str × Gm)} {ps : List (Str × Nat)} {s : Str} {sts : Gm} {tv : List V} {v : V} {q q2 : Rt} {row : Row} {k : Nat}
    (h : Rep K H nl rl ml pl (cs ++ [(r0, m0, ws ++ [w0])]) (gs ++ [(s, sts ++ [(q, row)])]) ps) (ew : H w0 = some (.lst tv)) (dv : Dt K H v (encR q2)) (nt : H t = none) :
    Rep K (upd (upd H t (.tup [.int k, v])) w0 (.lst (tv ++ [.ref t]))) nl rl ml pl (cs ++ [(r0, m0, ws ++ [w0])]) (gs ++ [(s, sts ++ [(q, row ++ [(k, q2)])])]) ps := by
  obtain ⟨d1, d2, d3, d4, d5, d6, e1, e2, e3, e4, e5⟩ := nd_four h.nd
  have ef : (cs ++ [((r0, m0, ws ++ [w0]) : Cell)]).flatMap fpC = cs.flatMap fpC ++ (r0 :: m0 :: (ws ++ [w0])) := by
    rw [List.flatMap_append]
    show _ ++ ((r0 :: m0 :: (ws ++ [w0])) ++ []) = _
    rw [List.append_nil]
  have hnd := h.nd
  rw [ef] at e1 e2 e3 e4 e5
  obtain ⟨cs0, c, ec, hg, hc⟩ := h.g.inv
  obtain ⟨rfl, rfl⟩ : cs = cs0 ∧ ((r0, m0, ws ++ [w0]) : Cell) = c := by
    have := List.append_inj' ec rfl
    exact ⟨this.1, (List.cons.inj this.2).1⟩
  obtain ⟨rv, er, dr⟩ := hc.rew
  have er : H r0 = some (.lst rv) := er
  have em : H m0 = some (.lst ((ws ++ [w0]).map V.ref)) := hc.mov
  have hrow : RowsRep K H (ws ++ [w0]) ((sts ++ [((q, row) : Rt × Row)]).map fun x : Rt × Row => x.2) := hc.row
  rw [List.map_append] at hrow
  obtain ⟨as0, a, tv', ea, hr0, ew', dt⟩ := RowsRep.inv (r := row) hrow
  obtain ⟨rfl, rfl⟩ : ws = as0 ∧ w0 = a := by
    have := List.append_inj' ea rfl
    exact ⟨this.1, (List.cons.inj this.2).1⟩
  rw [ew] at ew'
  cases ew'
  obtain ⟨f1, f2, f3⟩ := List.nodup_append.mp e5
  have g1 := List.nodup_cons.mp f2
  have g2 := List.nodup_cons.mp g1.2
  have g3 := List.nodup_append.mp g2.2
  have w0in : w0 ∈ ws ++ [w0] := List.mem_append_right _ (List.mem_singleton.mpr rfl)
  have r0w : r0 ≠ w0 := fun z => g1.1 (by rw [z]; exact List.mem_cons_of_mem _ w0in)
  have m0w : m0 ≠ w0 := fun z => g2.1 (by rw [z]; exact w0in)
  have w0ws : w0 ∉ ws := fun z => g3.2.2 _ z _ (List.mem_singleton.mpr rfl) rfl
  have w0cs : w0 ∉ cs.flatMap fpC := fun z => f3 _ z _ (List.mem_cons_of_mem _ (List.mem_cons_of_mem _ w0in)) rfl
  have w1 : upd H t (.tup [.int k, v]) w0 = some (.lst tv) := by rw [upd_ne (ne_of_none ew nt)]; exact ew
  have kS : ∀ S : List Addr, w0 ∉ S → Kp S H (upd (upd H t (.tup [.int k, v])) w0 (.lst (tv ++ [.ref t]))) := fun S h1 => (Kp.new nt).trans (Kp.put w1 h1)
  have k4 : ∀ a, a ∉ cs.flatMap fpC ++ r0 :: m0 :: (ws ++ [w0]) → Kp [a] H (upd (upd H t (.tup [.int k, v])) w0 (.lst (tv ++ [.ref t]))) := fun a ha =>
    kS [a] (fun z => ha (List.mem_append_right _ (by rw [← List.mem_singleton.mp z]; exact List.mem_cons_of_mem _ (List.mem_cons_of_mem _ w0in))))
  obtain ⟨pvs, ep, dp⟩ := h.p
  have one : ∀ a : Addr, a ∈ [a] := fun a => List.mem_singleton.mpr rfl
  have tx := (k4 pl e4).t
  refine ⟨hnd, ?_, ?_, ?_, ⟨pvs, (k4 pl e4).l _ (one _) _ ep, dp.tx tx⟩, ?_⟩
  · have := (k4 nl e1).l _ (one _) _ h.n
    rw [this, List.map_append, List.map_append]
    rfl
  · exact (k4 rl e2).l _ (one _) _ h.r
  · exact (k4 ml e3).l _ (one _) _ h.m
  · refine GsRep.snoc (g := (s, sts ++ [(q, row ++ [(k, q2)])])) ⟨⟨rv, ?_, ?_⟩, ?_, ?_⟩ (hg.kp (kS _ w0cs))
    · exact (kS [r0] (by simp [r0w.symm])).l _ (one _) _ er
    · have hd := dr.tx tx
      rw [List.map_append] at hd ⊢
      exact hd
    · exact (kS [m0] (by simp [m0w.symm])).l _ (one _) _ em
    · show RowsRep K _ (ws ++ [w0]) ((sts ++ [((q, row ++ [(k, q2)]) : Rt × Row)]).map fun x : Rt × Row => x.2)
      rw [List.map_append]
      refine RowsRep.snoc (r := row ++ [(k, q2)]) upd_same ?_ (hr0.kp (kS _ w0ws))
      rw [List.map_append]
      have n1 := Ext.new (T := 0) (o := .tup [.int k, v]) nt
      have dn : Dt K (upd H t (.tup [.int k, v])) (.ref t) (encT (k, q2)) := .newT nt (.cons (.int _) (.cons dv .nil))
      have t1 := TupX.lst (o := .lst (tv ++ [.ref t])) w1
      exact ((dt.ext n1).tx t1).snoc (dn.tx t1)
end
end Bk

namespace Bk
open PySem PySem.Spec PyProof.Rows L2 GxR TL
/-- how long the lists may be behind i lines -/
structure Bnd (i : Nat) (gs : List (Str × Gm)) (ps : List (Str × Nat)) : Prop where
  g : gs.length ≤ i
  p : ps.length ≤ i
  s : ∀ x ∈ gs, x.2.length ≤ i ∧ ∀ y ∈ x.2, y.2.length ≤ i
theorem Bnd.up {i : Nat} {gs : List (Str × Gm)} {ps : List (Str × Nat)} (h : Bnd i gs ps) : Bnd (i + 1) gs ps :=
  ⟨Nat.le_succ_of_le h.g, Nat.le_succ_of_le h.p, fun x hx => ⟨Nat.le_succ_of_le (h.s x hx).1, fun y hy => Nat.le_succ_of_le ((h.s x hx).2 y hy)⟩⟩
theorem Bnd.snoc {i : Nat} {gs : List (Str × Gm)} {ps : List (Str × Nat)} {x x' : Str × Gm} (h : Bnd i (gs ++ [x]) ps) (h1 : x'.2.length ≤ i + 1) (h2 : ∀ y ∈ x'.2, y.2.length ≤ i + 1) : Bnd (i + 1) (gs ++ [x']) ps := by
  have hg := h.g
  refine ⟨by rw [List.length_append, List.length_singleton] at hg ⊢; omega, Nat.le_succ_of_le h.p, fun z hz => ?_⟩
  rcases List.mem_append.mp hz with hz | hz
  · have := h.s z (List.mem_append_left _ hz)
    exact ⟨Nat.le_succ_of_le this.1, fun y hy => Nat.le_succ_of_le (this.2 y hy)⟩
  · rw [List.mem_singleton.mp hz]
    exact ⟨h1, h2⟩
section
variable {P : Program} {w : World} {K : PySem.W.Frag} {mg : Str → Option Value} {base : Heap} {T0 c0 : Addr} {tD tL : Tok}
abbrev s_read_book : Stmt := top 25
theorem sc_read_book : FnScope ["text", "forms", "names", "rewards", "moves", "places", "form", "games", "at", "name", "row"] ["text"] (defScope s_read_book) := ⟨rfl, rfl, rfl, by decide +kernel, rfl, by decide +kernel, by decide +kernel⟩
def spBook (T0 : Addr) (K : PySem.W.Frag) : Sp := fun us H Q _ => ∃ (z : Str) (b : Book), us = [.str z] ∧ BOk b ∧ tl z = textL (formsOf b) ∧ TabG H T0 ∧ Gives T0 K H Q (encB b)
def rTupOf (K : PySem.W.Frag) : List V → Hp → VK → Prop := fun xs H Q => ∃ p ys, xs = [.ref p] ∧ ((SqL K H p ys ∧ ∀ l, H l = none → Q (.ref l) (upd H l (.tup ys))) ∨ (SqT K H p ys ∧ Q (.ref p) H))
/-- behind the lines: what read_book has of them -/
def RBI (T0 : Addr) (K : PySem.W.Frag) (b : Book) (z : Str) (H2 : Hp) (l nl rl ml pl : Addr) (i : Nat) (σ : L2.St) (H' : Hp) : Prop :=
  ∃ (cs : List Cell) (gs : List (Str × Gm)) (ps : List (Str × Nat)) (y6 : Option V), σ = [some (.str z), some (.ref l), some (.ref nl), some (.ref rl), some (.ref ml), some (.ref pl), y6, none, none, none, none] ∧ Ext T0 H2 H' ∧ Rep K H' nl rl ml pl cs gs ps ∧
    Asm gs ps ((formsOf b).drop i) b.games b.places ∧ Bnd i gs ps ∧ ∀ a ∈ nl :: rl :: ml :: pl :: cs.flatMap fpC, H2 a = none
theorem ext_no {H H1 : Hp} {a : Addr} (x : Ext T0 H H1) (h : H1 a = none) : H a = none := x.free a h
theorem ok_read_book (D : At K mg "read_book" s_read_book) (T : Nm mg tD tL) (G_read_lines : Ok P w K mg base 5 "read_lines" ["text"] (spLines T0 K)) (G_check_lines : Ok P w K mg base 5 "check_lines" ["forms"] (spCheck T0 K)) : Ok P w K mg base 6 "read_book" ["text"] (spBook T0 K) := by
  refine D.ok sc_read_book (fun _ _ _ _ _ _ us hl => match us, hl with | [_], _ => rfl) (fun vs H Q E h => ?_) (fun f cdv A outer s H us Q E hr h => ?_)
  · obtain ⟨_, _, rfl, _⟩ := h
    rfl
  · obtain ⟨z, b, rfl, hb, ez, hT, q⟩ := h
    refine ⟨_, (pss_cons (ps_set (i := 1) sc_read_book.nd rfl (Or.inl rfl) (pe_own G_read_lines (hr.mono (by decide)) (by rfl) (pa_cons (pv 0) pa_nil)))
  (pss_cons (ps_expr (pe_own G_check_lines (hr.mono (by decide)) (by rfl) (pa_cons (pv 1) pa_nil)))
  (pss_cons (ps_set (i := 2) sc_read_book.nd rfl (Or.inl rfl) (pe_lst pa_nil))
  (pss_cons (ps_set (i := 3) sc_read_book.nd rfl (Or.inl rfl) (pe_lst pa_nil))
  (pss_cons (ps_set (i := 4) sc_read_book.nd rfl (Or.inl rfl) (pe_lst pa_nil))
  (pss_cons (ps_set (i := 5) sc_read_book.nd rfl (Or.inl rfl) (pe_lst pa_nil))
  (pss_cons (ps_for PassesOwn.never rfl (pi_list (pv 1)) (pg_name (i := 6) sc_read_book.nd rfl (Or.inl rfl))
  (pss_one (ps_if (pt_cmpR op_eq (pe_ix ix_tup (pv 6) pe_int (fun _ _ => rfl)) pe_str (nomark _))
  (pss_cons (ps_expr (pe_bm PySem.F.plainAttrs_list PySem.F.slot_list_append PySem.F.type_list_append mt_append (pv 2) (pa_cons (pe_ix ix_tup (pv 6) pe_int (fun _ _ => rfl)) pa_nil)))
  (pss_cons (ps_expr (pe_bm PySem.F.plainAttrs_list PySem.F.slot_list_append PySem.F.type_list_append mt_append (pv 3) (pa_cons (pe_lst pa_nil) pa_nil)))
  (pss_one (ps_expr (pe_bm PySem.F.plainAttrs_list PySem.F.slot_list_append PySem.F.type_list_append mt_append (pv 4) (pa_cons (pe_lst pa_nil) pa_nil))))))
  (pss_one (ps_if (pt_cmpR op_eq (pe_ix ix_tup (pv 6) pe_int (fun _ _ => rfl)) pe_str (nomark _))
  (pss_cons (ps_expr (pe_bm PySem.F.plainAttrs_list PySem.F.slot_list_append PySem.F.type_list_append mt_append (pe_ix ix_list (pv 3) (pe_un un_neg pe_int) (fun _ _ => rfl)) (pa_cons (pe_ix ix_tup (pv 6) pe_int (fun _ _ => rfl)) pa_nil)))
  (pss_one (ps_expr (pe_bm PySem.F.plainAttrs_list PySem.F.slot_list_append PySem.F.type_list_append mt_append (pe_ix ix_list (pv 4) (pe_un un_neg pe_int) (fun _ _ => rfl)) (pa_cons (pe_lst pa_nil) pa_nil)))))
  (pss_one (ps_if (pt_cmpR op_eq (pe_ix ix_tup (pv 6) pe_int (fun _ _ => rfl)) pe_str (nomark _))
  (pss_one (ps_expr (pe_bm PySem.F.plainAttrs_list PySem.F.slot_list_append PySem.F.type_list_append mt_append (pe_ix ix_list (pe_ix ix_list (pv 4) (pe_un un_neg pe_int) (fun _ _ => rfl)) (pe_un un_neg pe_int) (fun _ _ => rfl)) (pa_cons (pe_tup (pa_cons (pe_ix ix_tup (pv 6) pe_int (fun _ _ => rfl)) (pa_cons (pe_ix ix_tup (pv 6) pe_int (fun _ _ => rfl)) pa_nil))) pa_nil))))
  (pss_one (ps_if (pt_cmpR op_eq (pe_ix ix_tup (pv 6) pe_int (fun _ _ => rfl)) pe_str (nomark _))
  (pss_one (ps_expr (pe_bm PySem.F.plainAttrs_list PySem.F.slot_list_append PySem.F.type_list_append mt_append (pv 5) (pa_cons (pe_tup (pa_cons (pe_ix ix_tup (pv 6) pe_int (fun _ _ => rfl)) (pa_cons (pe_ix ix_tup (pv 6) pe_int (fun _ _ => rfl)) pa_nil))) pa_nil))))
  pss_nil)))))))))
  (pss_cons (ps_set (i := 7) sc_read_book.nd rfl (Or.inl rfl) (pe_lst pa_nil))
  (pss_cons (ps_for PassesOwn.never rfl (pi_enum (by rfl) T.n_enumerate (pa_cons (pv 2) pa_nil)) (pg_tup rfl (pgs_cons (pg_name (i := 8) sc_read_book.nd rfl (Or.inl rfl)) (pgs_cons (pg_name (i := 9) sc_read_book.nd rfl (Or.inl rfl)) pgs_nil)))
  (pss_one (ps_expr (pe_bm PySem.F.plainAttrs_list PySem.F.slot_list_append PySem.F.type_list_append mt_append (pv 7) (pa_cons (pe_tup (pa_cons (pv 9) (pa_cons (pe_tup (pa_cons (pe_callTy call_tuple_of (by rfl) T.n_tuple (by decide +kernel) (pa_cons (pe_ix ix_list (pv 3) (pv 8) (fun _ _ => rfl)) pa_nil)) (pa_cons (pe_callTy call_tuple_of (by rfl) T.n_tuple (by decide +kernel) (pa_cons (pe_lc (own := [("row", 10)]) (g := _) (tt := _) rfl sc_read_book.nd (pi_list (pe_ix ix_list (pv 4) (pv 8) (fun _ _ => rfl))) (blkOk_by (own := [("row", 10)]) (N := ["text", "forms", "names", "rewards", "moves", "places", "form", "games", "at", "name", "row"]) (sc := defScope s_read_book) (by decide +kernel)) (fun _ _ _ _ _ => (pg_name (i := 10) sc_read_book.nd rfl (Or.inl rfl))) (fun _ _ _ _ _ => pts_nil) (fun _ _ _ _ _ => (pe_callTy (T := "tuple") (r := rTupOf K) call_tuple_of (by rfl) T.n_tuple (by decide +kernel) (pa_cons (pv 10) pa_nil)))) pa_nil)) pa_nil))) pa_nil))) pa_nil)))))
  (pss_one (ps_ret (pe_tup (pa_cons (pe_ix ix_tup (pe_ix ix_list (pv 1) pe_int (fun _ _ => rfl)) pe_int (fun _ _ => rfl)) (pa_cons (pe_callTy call_tuple_of (by rfl) T.n_tuple (by decide +kernel) (pa_cons (pv 7) pa_nil)) (pa_cons (pe_callTy call_tuple_of (by rfl) T.n_tuple (by decide +kernel) (pa_cons (pv 5) pa_nil)) pa_nil))))))))))))))), ?_⟩
    have hlen : (formsOf b).length ≤ 4300 := len_forms hb
    refine ⟨_, rfl, z, formsOf b, rfl, ez, fok_forms hb, by simp [formsOf], by omega, hT, fun l vs H1 x1 hF1 => ?_⟩
    refine ⟨_, rfl, l, vs, formsOf b, rfl, hF1, by omega, cnts_nd hb, ck_forms hb, fun H2 x2 => ?_⟩
    have hF := hF1.ext x2
    have x12 := x1.trans x2
    refine ⟨sz0, fun nl n1 => ⟨sz0, fun rl n2 => ⟨sz0, fun ml n3 => ⟨sz0, fun pl n4 => ?_⟩⟩⟩⟩
    have y1 : Ext T0 H2 _ := Ext.new (o := .lst []) n1
    have y2 := y1.trans (Ext.new (o := .lst []) n2)
    have y3 := y2.trans (Ext.new (o := .lst []) n3)
    have y4 := y3.trans (Ext.new (o := .lst []) n4)
    have f2 := y1.free rl n2
    have f3 := y2.free ml n3
    have f4 := y3.free pl n4
    have a12 : rl ≠ nl := fun e => by rw [e, upd_same] at n2; cases n2
    have a23 : ml ≠ rl := fun e => by rw [e, upd_same] at n3; cases n3
    have a13 : ml ≠ nl := fun e => by rw [upd_ne a23, e, upd_same] at n3; cases n3
    have a34 : pl ≠ ml := fun e => by rw [e, upd_same] at n4; cases n4
    have a24 : pl ≠ rl := fun e => by rw [upd_ne a34, e, upd_same] at n4; cases n4
    have a14 : pl ≠ nl := fun e => by rw [upd_ne a34, upd_ne a24, e, upd_same] at n4; cases n4
    have rep0 : Rep K (upd (upd (upd (upd H2 nl (.lst [])) rl (.lst [])) ml (.lst [])) pl (.lst [])) nl rl ml pl [] [] [] := by
      refine ⟨by simp [a12.symm, a13.symm, a14.symm, a23.symm, a24.symm, a34.symm], ?_, ?_, ?_, ⟨[], upd_same, .nil⟩, .nil⟩
      · rw [upd_ne a14.symm, upd_ne a13.symm, upd_ne a12.symm, upd_same]; rfl
      · rw [upd_ne a24.symm, upd_ne a23.symm, upd_same]; rfl
      · rw [upd_ne a34.symm, upd_same]; rfl
    refine ⟨_, rfl, l, rfl, ⟨_, y4.seqL hF.seq⟩, for_list (K := K) (a := l) (xs := vs) (RBI T0 K b z H2 l nl rl ml pl)
      ⟨[], [], [], none, rfl, y4, rep0, asm_forms b, ⟨Nat.le_refl _, Nat.le_refl _, fun x hx => by cases hx⟩, fun a ha => by simp only [List.flatMap_nil, List.mem_cons, List.not_mem_nil, or_false] at ha; rcases ha with e | e | e | e <;> subst e <;> assumption⟩ (fun i σ H' _ ⟨_, _, _, _, _, x, _⟩ => x.seqL hF.seq) ?_ ?_⟩
    · rintro i x σ H' hx ⟨cs, gs, ps, y6, rfl, xx, rep, as, bn, fr⟩
      obtain ⟨f, ef, hf⟩ := (hF.ext xx).at' hx
      have hi : i < 4300 := Nat.lt_of_lt_of_le (List.getElem?_eq_some_iff.mp ef).1 hlen
      rw [drop_at ef] at as
      have frn := fr nl (by simp)
      have frr := fr rl (by simp)
      have frm := fr ml (by simp)
      have frp := fr pl (by simp)
      have bg := bn.g
      have lcs := rep.g.len
      obtain ⟨d1, d2, d3, d4, d5, d6, e1, e2, e3, e4, e5⟩ := nd_four rep.nd
      cases f with
      | disc r =>
        obtain ⟨a, y, rfl, st, hy⟩ := dt_disc hf
        refine ⟨_, rfl, a, _, _, _, rfl, rfl, st, at0, rfl, _, rfl, ifF (by decide +kernel) ?_⟩
        refine ⟨_, rfl, a, _, _, _, rfl, rfl, st, at0, rfl, _, rfl, ifF (by decide +kernel) ?_⟩
        refine ⟨_, rfl, a, _, _, _, rfl, rfl, st, at0, rfl, _, rfl, ifF (by decide +kernel) ?_⟩
        refine ⟨_, rfl, a, _, _, _, rfl, rfl, st, at0, rfl, _, rfl, ifF (by decide +kernel) ?_⟩
        cases as with
        | disc as => exact ⟨cs, gs, ps, _, rfl, xx, rep, as, bn.up, fr⟩
      | game s =>
        obtain ⟨a, rfl, st⟩ := dt_game hf
        refine ⟨_, rfl, a, _, _, _, rfl, rfl, st, at0, rfl, _, rfl, ifT (decide_eq_true rfl) ?_⟩
        have hn := rep.n
        refine ⟨_, rfl, .inl ⟨rfl, _, SqL.of hn⟩, _, rfl, a, _, _, _, rfl, rfl, st, at1, nl, _, _, rfl, rfl, hn, lt_line (by rw [List.length_map]; omega), ?_⟩
        have x3 := xx.put (o := .lst ((gs.map fun g => V.str g.1) ++ [.str s])) frn
        have hr1 : upd H' nl (.lst ((gs.map fun g => V.str g.1) ++ [.str s])) rl = some (.lst (cs.map fun c => V.ref c.1)) := by rw [upd_ne d1.symm]; exact rep.r
        refine ⟨_, rfl, .inl ⟨rfl, _, SqL.of hr1⟩, sz0, fun r0 nr => ?_⟩
        have fr0 := x3.free r0 nr
        have x4 := x3.put (o := .lst []) fr0
        have r0rl : rl ≠ r0 := ne_of_none hr1 nr
        have hr2 : upd (upd H' nl (.lst ((gs.map fun g => V.str g.1) ++ [.str s]))) r0 (.lst []) rl = some (.lst (cs.map fun c => V.ref c.1)) := by rw [upd_ne r0rl]; exact hr1
        refine ⟨rl, _, _, rfl, rfl, hr2, lt_line (by rw [List.length_map]; omega), ?_⟩
        have x5 := x4.put (o := .lst ((cs.map fun c => V.ref c.1) ++ [.ref r0])) frr
        have hm1 : upd H' nl (.lst ((gs.map fun g => V.str g.1) ++ [.str s])) ml = some (.lst (cs.map fun c => V.ref c.2.1)) := by rw [upd_ne d2.symm]; exact rep.m
        have hm2 : upd (upd H' nl (.lst ((gs.map fun g => V.str g.1) ++ [.str s]))) r0 (.lst []) ml = some (.lst (cs.map fun c => V.ref c.2.1)) := by rw [upd_ne (ne_of_none hm1 nr)]; exact hm1
        have hm3 : upd (upd (upd H' nl (.lst ((gs.map fun g => V.str g.1) ++ [.str s]))) r0 (.lst [])) rl (.lst ((cs.map fun c => V.ref c.1) ++ [.ref r0])) ml = some (.lst (cs.map fun c => V.ref c.2.1)) := by rw [upd_ne d4.symm]; exact hm2
        refine ⟨_, rfl, .inl ⟨rfl, _, SqL.of hm3⟩, sz0, fun m0 nm => ?_⟩
        have fm0 := x5.free m0 nm
        have x6 := x5.put (o := .lst []) fm0
        have hm4 : upd (upd (upd (upd H' nl (.lst ((gs.map fun g => V.str g.1) ++ [.str s]))) r0 (.lst [])) rl (.lst ((cs.map fun c => V.ref c.1) ++ [.ref r0]))) m0 (.lst []) ml = some (.lst (cs.map fun c => V.ref c.2.1)) := by rw [upd_ne (ne_of_none hm3 nm)]; exact hm3
        refine ⟨ml, _, _, rfl, rfl, hm4, lt_line (by rw [List.length_map]; omega), ?_⟩
        have x7 := x6.put (o := .lst ((cs.map fun c => V.ref c.2.1) ++ [.ref m0])) frm
        cases as with
        | game as =>
          refine ⟨_, _, ps, _, rfl, x7, rep.game s nr nm, as, ?_, ?_⟩
          · have hp := bn.p
            refine ⟨by rw [List.length_append, List.length_singleton]; omega, by omega, fun x hx => ?_⟩
            rcases List.mem_append.mp hx with hx | hx
            · have := bn.s x hx
              exact ⟨Nat.le_succ_of_le this.1, fun y hy => Nat.le_succ_of_le (this.2 y hy)⟩
            · rw [List.mem_singleton.mp hx]
              exact ⟨Nat.zero_le _, fun y hy => by cases hy⟩
          · intro a ha
            have ef : (cs ++ [((r0, m0, []) : Cell)]).flatMap fpC = cs.flatMap fpC ++ [r0, m0] := by
              rw [List.flatMap_append]
              rfl
            rw [ef] at ha
            have ha' : a ∈ (nl :: rl :: ml :: pl :: cs.flatMap fpC) ++ [r0, m0] := ha
            rcases List.mem_append.mp ha' with ha | ha
            · exact fr a ha
            · simp only [List.mem_cons, List.not_mem_nil, or_false] at ha
              rcases ha with e | e
              · rw [e]; exact fr0
              · rw [e]; exact fm0
      | state r =>
        obtain ⟨a, y, rfl, st, hy⟩ := dt_state hf
        refine ⟨_, rfl, a, _, _, _, rfl, rfl, st, at0, rfl, _, rfl, ifF (by decide +kernel) ?_⟩
        refine ⟨_, rfl, a, _, _, _, rfl, rfl, st, at0, rfl, _, rfl, ifT (decide_eq_true rfl) ?_⟩
        generalize eg : gs = gs1 at as
        cases as with
        | @state gs0 _ s sts _ _ _ _ as =>
          subst eg
          obtain ⟨cs0, ⟨r0, m0, ws⟩, rfl, hg0, hc⟩ := rep.g.inv
          obtain ⟨rv, er, dr⟩ := hc.rew
          have er : H' r0 = some (.lst rv) := er
          have em : H' m0 = some (.lst (ws.map V.ref)) := hc.mov
          have ef : ∀ ws', (cs0 ++ [((r0, m0, ws') : Cell)]).flatMap fpC = cs0.flatMap fpC ++ (r0 :: m0 :: ws') := fun ws' => by
            rw [List.flatMap_append]
            show _ ++ ((r0 :: m0 :: ws') ++ []) = _
            rw [List.append_nil]
          have mem : ∀ a, a ∈ (r0 :: m0 :: ws) → a ∈ nl :: rl :: ml :: pl :: (cs0 ++ [((r0, m0, ws) : Cell)]).flatMap fpC := fun a ha => by
            rw [ef]
            simp only [List.mem_cons]
            exact .inr (.inr (.inr (.inr (List.mem_append_right _ ha))))
          have fr0 := fr r0 (mem _ (by simp))
          have fm0 := fr m0 (mem _ (by simp))
          rw [ef] at e1 e2 e3 e4 e5
          have r0n : r0 ∉ [nl, rl, ml, pl] := fun z => by
            simp only [List.mem_cons, List.not_mem_nil, or_false] at z
            rcases z with z | z | z | z
            · exact e1 (List.mem_append_right _ (by rw [← z]; exact List.mem_cons_self ..))
            · exact e2 (List.mem_append_right _ (by rw [← z]; exact List.mem_cons_self ..))
            · exact e3 (List.mem_append_right _ (by rw [← z]; exact List.mem_cons_self ..))
            · exact e4 (List.mem_append_right _ (by rw [← z]; exact List.mem_cons_self ..))
          have g1 := List.nodup_cons.mp (List.nodup_append.mp e5).2.1
          have r0m : m0 ≠ r0 := fun z => g1.1 (by rw [← z]; exact List.mem_cons_self ..)
          have hb1 : sts.length ≤ i := (bn.s _ (List.mem_append_right _ (List.mem_singleton.mpr rfl))).1
          have lrv : rv.length = sts.length := by
            have := dr.length
            rw [List.length_map] at this
            exact this
          have lws : ws.length = sts.length := by
            have := hc.row.len
            rw [List.length_map] at this
            exact this
          have hrl : H' rl = some (.lst ((cs0.map fun c => V.ref c.1) ++ [.ref r0])) := by
            rw [rep.r, List.map_append]
            rfl
          have hml : H' ml = some (.lst ((cs0.map fun c => V.ref c.2.1) ++ [.ref m0])) := by
            rw [rep.m, List.map_append]
            rfl
          refine ⟨_, rfl, _, rfl, rl, _, _, _, rfl, rfl, SqL.of hrl, atI_last _ _, .inl ⟨rfl, _, SqL.of er⟩, _, rfl, a, _, _, _, rfl, rfl, st, at1, r0, rv, _, rfl, rfl, er, lt_line (by omega), ?_⟩
          have x3 := xx.put (o := .lst (rv ++ [y])) fr0
          have hml1 : upd H' r0 (.lst (rv ++ [y])) ml = some (.lst ((cs0.map fun c => V.ref c.2.1) ++ [.ref m0])) := by
            rw [upd_ne (fun z => r0n (by rw [← z]; simp))]
            exact hml
          have em1 : upd H' r0 (.lst (rv ++ [y])) m0 = some (.lst (ws.map V.ref)) := by rw [upd_ne r0m]; exact em
          refine ⟨_, rfl, _, rfl, ml, _, _, _, rfl, rfl, SqL.of hml1, atI_last _ _, .inl ⟨rfl, _, SqL.of em1⟩, sz0, fun w0 nw => ?_⟩
          have fw0 := x3.free w0 nw
          have x4 := x3.put (o := .lst []) fw0
          have em2 : upd (upd H' r0 (.lst (rv ++ [y]))) w0 (.lst []) m0 = some (.lst (ws.map V.ref)) := by rw [upd_ne (ne_of_none em1 nw)]; exact em1
          refine ⟨m0, _, _, rfl, rfl, em2, lt_line (by rw [List.length_map]; omega), ?_⟩
          have x5 := x4.put (o := .lst (ws.map V.ref ++ [.ref w0])) fm0
          refine ⟨_, _, ps, _, rfl, x5, rep.state er hy nw, as, ?_, ?_⟩
          · refine bn.snoc (by show (sts ++ [(r, [])]).length ≤ i + 1; rw [List.length_append, List.length_singleton]; exact Nat.succ_le_succ hb1) fun y hy => ?_
            rcases List.mem_append.mp hy with hy | hy
            · exact Nat.le_succ_of_le ((bn.s _ (List.mem_append_right _ (List.mem_singleton.mpr rfl))).2 y hy)
            · rw [List.mem_singleton.mp hy]
              exact Nat.zero_le _
          · intro a ha
            rw [ef] at ha
            have el : nl :: rl :: ml :: pl :: (cs0.flatMap fpC ++ r0 :: m0 :: (ws ++ [w0])) = (nl :: rl :: ml :: pl :: (cs0.flatMap fpC ++ r0 :: m0 :: ws)) ++ [w0] := by simp
            rw [el] at ha
            rcases List.mem_append.mp ha with ha | ha
            · refine fr a ?_
              rw [ef]
              exact ha
            · rw [List.mem_singleton.mp ha]
              exact fw0
      | to k r =>
        obtain ⟨a, y, rfl, st, hy⟩ := dt_to hf
        refine ⟨_, rfl, a, _, _, _, rfl, rfl, st, at0, rfl, _, rfl, ifF (by decide +kernel) ?_⟩
        refine ⟨_, rfl, a, _, _, _, rfl, rfl, st, at0, rfl, _, rfl, ifF (by decide +kernel) ?_⟩
        refine ⟨_, rfl, a, _, _, _, rfl, rfl, st, at0, rfl, _, rfl, ifT (decide_eq_true rfl) ?_⟩
        generalize eg : gs = gs1 at as
        cases as with
        | @to gs0 _ s sts q0 row _ _ _ _ _ as =>
          subst eg
          obtain ⟨cs0, ⟨r0, m0, wsa⟩, rfl, hg0, hc⟩ := rep.g.inv
          have hrow : RowsRep K H' wsa ((sts ++ [((q0, row) : Rt × Row)]).map fun x : Rt × Row => x.2) := hc.row
          rw [List.map_append] at hrow
          obtain ⟨ws, w0, tv, rfl, hr0, ew, dt⟩ := RowsRep.inv (r := row) hrow
          have em : H' m0 = some (.lst ((ws ++ [w0]).map V.ref)) := hc.mov
          rw [List.map_append] at em
          have ef : (cs0 ++ [((r0, m0, ws ++ [w0]) : Cell)]).flatMap fpC = cs0.flatMap fpC ++ (r0 :: m0 :: (ws ++ [w0])) := by
            rw [List.flatMap_append]
            show _ ++ ((r0 :: m0 :: (ws ++ [w0])) ++ []) = _
            rw [List.append_nil]
          have fw0 := fr w0 (by
            rw [ef]
            simp only [List.mem_cons]
            exact .inr (.inr (.inr (.inr (List.mem_append_right _ (List.mem_cons_of_mem _ (List.mem_cons_of_mem _ (List.mem_append_right _ (List.mem_singleton.mpr rfl)))))))))
          have hml : H' ml = some (.lst ((cs0.map fun c => V.ref c.2.1) ++ [.ref m0])) := by
            rw [rep.m, List.map_append]
            rfl
          have hb1 := bn.s _ (List.mem_append_right _ (List.mem_singleton.mpr rfl))
          have hb2 := hb1.2 (q0, row) (List.mem_append_right _ (List.mem_singleton.mpr rfl))
          have hb3 := hb1.1
          have ltv : tv.length = row.length := by
            have := dt.length
            rw [List.length_map] at this
            exact this
          have hb2' : row.length ≤ i := hb2
          refine ⟨_, rfl, _, rfl, ml, _, _, _, rfl, rfl, SqL.of hml, atI_last _ _, _, rfl, m0, _, _, _, rfl, rfl, SqL.of em, atI_last _ _, .inl ⟨rfl, _, SqL.of ew⟩, ?_⟩
          refine ⟨_, rfl, a, _, _, _, rfl, rfl, st, at1, _, rfl, a, _, _, _, rfl, rfl, st, at2, sz2, fun t nt => ?_⟩
          have x3 := xx.trans (Ext.new (o := .tup [.int (k : Nat), y]) nt)
          have ew1 : upd H' t (.tup [.int (k : Nat), y]) w0 = some (.lst tv) := by rw [upd_ne (ne_of_none ew nt)]; exact ew
          refine ⟨w0, tv, _, rfl, rfl, ew1, lt_line (by omega), ?_⟩
          have x4 := x3.put (o := .lst (tv ++ [.ref t])) fw0
          refine ⟨_, _, ps, _, rfl, x4, rep.to ew hy nt, as, ?_, fr⟩
          refine bn.snoc ?_ fun y hy => ?_
          · have : (sts ++ [((q0, row) : Rt × Row)]).length ≤ i := hb3
            show (sts ++ [((q0, row ++ [(k, r)]) : Rt × Row)]).length ≤ i + 1
            rw [List.length_append, List.length_singleton] at this ⊢
            omega
          · rcases List.mem_append.mp hy with hy | hy
            · exact Nat.le_succ_of_le (hb1.2 y (List.mem_append_left _ hy))
            · rw [List.mem_singleton.mp hy]
              show (row ++ [(k, r)]).length ≤ i + 1
              rw [List.length_append, List.length_singleton]
              omega
      | place s k =>
        obtain ⟨a, rfl, st⟩ := dt_place hf
        refine ⟨_, rfl, a, _, _, _, rfl, rfl, st, at0, rfl, _, rfl, ifF (by decide +kernel) ?_⟩
        refine ⟨_, rfl, a, _, _, _, rfl, rfl, st, at0, rfl, _, rfl, ifF (by decide +kernel) ?_⟩
        refine ⟨_, rfl, a, _, _, _, rfl, rfl, st, at0, rfl, _, rfl, ifF (by decide +kernel) ?_⟩
        refine ⟨_, rfl, a, _, _, _, rfl, rfl, st, at0, rfl, _, rfl, ifT (decide_eq_true rfl) ?_⟩
        obtain ⟨pvs, ep, dp⟩ := rep.p
        have lp : pvs.length = ps.length := by
          have := dp.length
          rw [List.length_map] at this
          exact this
        have hp := bn.p
        refine ⟨_, rfl, .inl ⟨rfl, _, SqL.of ep⟩, ?_⟩
        refine ⟨_, rfl, a, _, _, _, rfl, rfl, st, at1, _, rfl, a, _, _, _, rfl, rfl, st, at2, sz2, fun t nt => ?_⟩
        have x3 := xx.trans (Ext.new (o := .tup [.str s, .int (k : Nat)]) nt)
        have ep1 : upd H' t (.tup [.str s, .int (k : Nat)]) pl = some (.lst pvs) := by rw [upd_ne (ne_of_none ep nt)]; exact ep
        refine ⟨pl, pvs, _, rfl, rfl, ep1, lt_line (by omega), ?_⟩
        have x4 := x3.put (o := .lst (pvs ++ [.ref t])) frp
        cases as with
        | place as =>
          refine ⟨cs, gs, _, _, rfl, x4, rep.place s k ep nt, as, ?_, fr⟩
          refine ⟨by omega, by rw [List.length_append, List.length_singleton]; omega, fun x hx => ?_⟩
          have := bn.s x hx
          exact ⟨Nat.le_succ_of_le this.1, fun y hy => Nat.le_succ_of_le (this.2 y hy)⟩
    · rintro σ H7 ⟨cs, gs, ps, y6, rfl, x7, rep, as, bn, fr⟩
      have e0 : (formsOf b).drop vs.length = [] := List.drop_of_length_le (by rw [hF.len]; exact Nat.le_refl _)
      rw [e0] at as
      cases as with
      | nil =>
        refine ⟨sz0, fun gl ng => ?_⟩
        have z1 := Ext.new (T := T0) (o := .lst []) ng
        have lcs := rep.g.len
        have hgl10 := hb.glen
        have hn := rep.n
        refine ⟨_, rfl, nl, _, rfl, SqL.of (z1.lst hn), for_enum (K := K) (a := nl) (xs := b.games.map fun g => V.str g.1) (fun i σ H' => ∃ (gv : List V) (y8 y9 : Option V), σ = [some (.str z), some (.ref l), some (.ref nl), some (.ref rl), some (.ref ml), some (.ref pl), y6, some (.ref gl), y8, y9, none] ∧ Ext T0 H7 H' ∧
            H' gl = some (.lst gv) ∧ DtAll K H' gv ((b.games.take i).map encNG))
          ⟨[], none, none, rfl, z1, upd_same, .nil⟩ (fun i σ H' _ ⟨_, _, _, _, x, _⟩ => SqL.of (x.lst hn)) ?_ ?_⟩
        · rintro i x T1 σ H' hx ⟨gv, y8, y9, rfl, xx, hgl, hall⟩ nT
          rw [List.getElem?_map] at hx
          cases eg : b.games[i]? with
          | none =>
            rw [eg] at hx
            cases hx
          | some g =>
            rw [eg] at hx
            cases hx
            have hi : i < b.games.length := (List.getElem?_eq_some_iff.mp eg).1
            obtain ⟨⟨r0, m0, ws⟩, ec, hc⟩ := rep.g.at eg
            obtain ⟨rv, er, dr⟩ := hc.rew
            have er : H7 r0 = some (.lst rv) := er
            have em : H7 m0 = some (.lst (ws.map V.ref)) := hc.mov
            have G := hb.gm g (List.mem_of_getElem? eg)
            have n1 := Ext.new (T := T0) (o := .tup [.int (i : Nat), .str g.1]) nT
            have w1 := xx.trans n1
            have a1 : (cs.map fun c => V.ref c.1)[i]? = some (.ref r0) := by rw [List.getElem?_map, ec]; rfl
            have a2 : (cs.map fun c => V.ref c.2.1)[i]? = some (.ref m0) := by rw [List.getElem?_map, ec]; rfl
            refine ⟨T1, _, rfl, SqT.of upd_same, rfl, _, _, rfl, _, _, rfl, rfl, ?_⟩
            refine ⟨_, rfl, .inl ⟨rfl, _, SqL.of (n1.lst hgl)⟩, _, rfl, _, rfl, _, rfl, rl, _, _, _, rfl, rfl, SqL.of (w1.lst rep.r), atI_nat a1, r0, rv, rfl, .inl ⟨SqL.of (w1.lst er), fun t1 nt1 => ?_⟩⟩
            have n2 := Ext.new (T := T0) (o := .tup rv) nt1
            have w2 := w1.trans n2
            have dt1 : Dt K _ (.ref t1) (.tuple (g.2.map fun s => encR s.1)) := .newT nt1 (dr.ext w1)
            refine ⟨_, rfl, _, rfl, ml, _, _, _, rfl, rfl, SqL.of (w2.lst rep.m), atI_nat a2, m0, rfl, ⟨_, SqL.of (w2.lst em)⟩, fun D nD => ?_⟩
            have n3 := Ext.new (T := T0) (o := .lst []) nD
            refine lc_list (K := K) (a := m0) (xs := ws.map V.ref) (fun j H'' => ∃ acc, Ext T0 (upd (upd H' T1 (.tup [.int (i : Nat), .str g.1])) t1 (.tup rv)) H'' ∧ H'' D = some (.lst acc) ∧ DtAll K H'' acc (((g.2.map (·.2)).take j).map encRow))
              ⟨[], n3, upd_same, .nil⟩ (fun j H'' _ ⟨_, x, _⟩ => SqL.of (x.lst (w2.lst em))) ?_ ?_
            · rintro j v H'' hv ⟨acc, x3, hD, hacc⟩
              have hjw : j < ws.length := by
                have := (List.getElem?_eq_some_iff.mp hv).1
                rw [List.length_map] at this
                exact this
              have lws := hc.row.len
              have hlw : ws.length = (g.2.map (·.2)).length := lws
              obtain ⟨row, erow⟩ : ∃ row, (g.2.map (·.2))[j]? = some row := ⟨_, List.getElem?_eq_getElem (by omega)⟩
              obtain ⟨w0, tv, ew0, ew, dw⟩ := hc.row.at erow
              have ew0' : ws[j]? = some w0 := ew0
              rw [List.getElem?_map, ew0'] at hv
              cases hv
              refine ⟨rfl, ?_⟩
              refine ⟨_, rfl, w0, tv, rfl, .inl ⟨SqL.of (x3.lst (w2.lst ew)), fun t nt => ?_⟩⟩
              have n4 := Ext.new (T := T0) (o := .tup tv) nt
              have hD1 := n4.lst hD
              have lacc : acc.length ≤ ws.length := by
                have := hacc.length
                rw [List.length_map, List.length_take] at this
                omega
              have hg20 := G.len
              rw [List.length_map] at hlw
              refine ⟨acc, hD1, lt_line (by omega), acc ++ [.ref t], (x3.trans n4).put nD, upd_same, ?_⟩
              rw [take_at erow, List.map_append]
              have tx := TupX.lst (o := .lst (acc ++ [.ref t])) hD1
              have dn : Dt K _ (.ref t) (encRow row) := .newT nt (dw.ext (w2.trans x3))
              exact ((hacc.ext n4).tx tx).snoc (dn.tx tx)
            · rintro H'' ⟨acc, x3, hD, hacc⟩
              rw [List.length_map, hc.row.len, List.take_length] at hacc
              refine ⟨D, acc, rfl, .inl ⟨SqL.of hD, fun t2 nt2 => ?_⟩⟩
              have n4 := Ext.new (T := T0) (o := .tup acc) nt2
              have dt2 : Dt K _ (.ref t2) (.tuple ((g.2.map (·.2)).map encRow)) := .newT nt2 hacc
              have dt1' := dt1.ext (x3.trans n4)
              refine ⟨sz2, fun t3 nt3 => ?_⟩
              have n5 := Ext.new (T := T0) (o := .tup [.ref t1, .ref t2]) nt3
              have dt3 : Dt K (upd (upd H'' t2 (.tup acc)) t3 (.tup [.ref t1, .ref t2])) (.ref t3) (encG g.2) := by
                refine .newT nt3 (.cons dt1' (.cons ?_ .nil))
                have : (g.2.map fun s => encRow s.2) = (g.2.map (·.2)).map encRow := by rw [List.map_map]; rfl
                rw [this]
                exact dt2
              refine ⟨sz2, fun t4 nt4 => ?_⟩
              have n6 := Ext.new (T := T0) (o := .tup [.str g.1, .ref t3]) nt4
              have dt4 : Dt K _ (.ref t4) (encNG g) := .newT nt4 (.cons (.str _) (.cons dt3 .nil))
              have w7 := ((x3.trans n4).trans n5).trans n6
              have w8 := (n1.trans n2).trans w7
              have hgl2 := w8.lst hgl
              have lgv : gv.length ≤ b.games.length := by
                have := hall.length
                rw [List.length_map, List.length_take] at this
                omega
              refine ⟨gl, gv, _, rfl, rfl, hgl2, lt_line (by omega), gv ++ [.ref t4], _, _, rfl, (xx.trans w8).put ng, upd_same, ?_⟩
              rw [take_at eg, List.map_append]
              have tx := TupX.lst (o := .lst (gv ++ [.ref t4])) hgl2
              exact ((hall.ext w8).tx tx).snoc (dt4.tx tx)
        · rintro σ H' ⟨gv, y8, y9, rfl, xx, hgl, hall⟩
          rw [List.length_map, List.take_length] at hall
          obtain ⟨v0, ev0, hv0⟩ := (hF.ext (x7.trans xx)).at (show (formsOf b)[0]? = some (.disc b.disc) from rfl)
          obtain ⟨a0, y0, rfl, st0, hy0⟩ := dt_disc hv0
          obtain ⟨pvs, ep, dp⟩ := rep.p
          refine ⟨_, rfl, l, vs, 0, .ref a0, rfl, rfl, (hF.ext (x7.trans xx)).seq, atI_nat (j := 0) ev0, a0, _, 1, y0, rfl, rfl, st0, at1, ?_⟩
          refine ⟨_, rfl, gl, gv, rfl, .inl ⟨SqL.of hgl, fun t1 nt1 => ?_⟩⟩
          have n1 := Ext.new (T := T0) (o := .tup gv) nt1
          have d1 : Dt K _ (.ref t1) (.tuple (b.games.map encNG)) := .newT nt1 hall
          refine ⟨_, rfl, pl, pvs, rfl, .inl ⟨SqL.of (n1.lst (xx.lst ep)), fun t2 nt2 => ?_⟩⟩
          have n2 := Ext.new (T := T0) (o := .tup pvs) nt2
          have d2 : Dt K _ (.ref t2) (.tuple (b.places.map encP)) := .newT nt2 ((dp.ext xx).ext n1)
          refine ⟨sz3, ?_⟩
          exact q.tup ((x12.trans (x7.trans xx)).trans (n1.trans n2)) (.cons (hy0.ext (n1.trans n2)) (.cons (d1.ext n2) (.cons d2 .nil)))
end
end Bk

namespace Bk
open PySem PySem.Spec PyProof.Rows L2 GxR TL
def ratS (r : Rt) : Str := ⟨(ratL r).toArray⟩
def lineS (f : Fm) : Str := ⟨(lineL f).toArray⟩
def textS (fs : List Fm) : Str := ⟨(textL fs).toArray⟩
theorem len_of {x : Str} {L : List Nat} (h : tl x = L) : x.length = L.length := by rw [len_tl, h]
theorem str_le {x : Str} {L : List Nat} (h : tl x = L) (hl : L.length ≤ 16000000) : x.length ≤ sizeLine := by
  rw [len_of h]
  exact le_line hl
theorem log_60 {n : Nat} (h : n < 10 ^ 60) : n.log2 < 1920 := Nat.lt_of_lt_of_le (PySem.Flt.log2_lt_of (k := 200) (by decide) (Nat.lt_of_lt_of_le h (by decide))) (by decide)
theorem numL_20 {n : Nat} (h : n ≤ 20) : (numL n).length ≤ 60 := numL_60 (Nat.lt_of_le_of_lt h (by decide))
theorem tl_empty : tl Str.empty = [] := rfl
section
variable {P : Program} {w : World} {K : PySem.W.Frag} {mg : Str → Option Value} {base : Heap} {T0 c0 : Addr} {tD tL : Tok}
/-! ### write_ratio -/
abbrev s_write_ratio : Stmt := top 28
theorem sc_write_ratio : FnScope ["value"] ["value"] (defScope s_write_ratio) := ⟨rfl, rfl, rfl, by decide +kernel, rfl, by decide +kernel, by decide +kernel⟩
def spWR (K : PySem.W.Frag) : Sp := fun us H Q _ => ∃ (v : V) (r : Rt), us = [v] ∧ Dt K H v (encR r) ∧ ROk r ∧ Q (.str (ratS r)) H
theorem ok_write_ratio (D : At K mg "write_ratio" s_write_ratio) (T : Nm mg tD tL) : Ok P w K mg base 1 "write_ratio" ["value"] (spWR K) := by
  refine D.ok sc_write_ratio (fun _ _ _ _ _ _ us hl => match us, hl with | [_], _ => rfl) (fun vs H Q E h => ?_) (fun f cdv A outer s H us Q E hr h => ?_)
  · obtain ⟨_, _, rfl, _⟩ := h
    rfl
  · obtain ⟨v, r, rfl, hd, hR, q⟩ := h
    obtain ⟨a, rfl, st⟩ := dp_rat hd
    refine ⟨_, (pss_cons (ps_if (pt_cmpR op_eq (pe_ix ix_tup (pv 0) pe_int (fun _ _ => rfl)) pe_int (nomark _))
  (pss_one (ps_ret (pe_callTy call_str_int (by rfl) T.n_str (by decide +kernel) (pa_cons (pe_ix ix_tup (pv 0) pe_int (fun _ _ => rfl)) pa_nil))))
  pss_nil)
  (pss_one (ps_ret (pe_joined (.cons (pe_fmt (pe_ix ix_tup (pv 0) pe_int (fun _ _ => rfl))) (.cons pe_str (.cons (pe_fmt (pe_ix ix_tup (pv 0) pe_int (fun _ _ => rfl))) .nil))))))), ?_⟩
    have l1 := intL_len hR.n60
    have l2 := numL_60 hR.d60
    have hp := hR.pos
    refine ⟨_, rfl, a, _, _, _, rfl, rfl, st, at1, rfl, _, rfl, ?_⟩
    by_cases h1 : r.2 = 1
    · refine ifT (decide_eq_true (by rw [h1])) ?_
      refine ⟨_, rfl, a, _, _, _, rfl, rfl, st, at0, _, rfl, log_60 hR.n60, ?_⟩
      have e : Str.ofString (toString r.1) = ratS r := by
        refine ext_tl ?_
        rw [tl_int]
        show intL r.1 = ratL r
        unfold ratL ratWords
        rw [if_pos h1]
        rfl
      show Q (.str (Str.ofString (toString r.1))) H
      rw [e]
      exact q
    · refine ifF (decide_eq_false fun z => h1 (V.int.inj z)) ?_
      have t1 : tl (Str.empty ++ Str.ofString (toString r.1)) = intL r.1 := by rw [tl_append, tl_int]; rfl
      have t2 : tl (Str.empty ++ Str.ofString (toString r.1) ++ "/") = intL r.1 ++ [47] := by rw [tl_append, t1, tl_slash]
      have ed : intL r.2 = numL r.2.natAbs := if_neg (by omega)
      have t3 : tl (Str.empty ++ Str.ofString (toString r.1) ++ "/" ++ Str.ofString (toString r.2)) = intL r.1 ++ [47] ++ numL r.2.natAbs := by rw [tl_append, t2, tl_int, ed]
      refine ⟨_, rfl, a, _, _, _, rfl, rfl, st, at0, .inr ⟨_, rfl, log_60 hR.n60, _, rfl, str_le t1 (by omega), _, rfl, str_le t2 (by simp; omega), ?_⟩⟩
      refine ⟨_, rfl, a, _, _, _, rfl, rfl, st, at1, .inr ⟨_, rfl, log_60 hR.d60, _, rfl, str_le t3 (by simp; omega), ?_⟩⟩
      have e : Str.empty ++ Str.ofString (toString r.1) ++ "/" ++ Str.ofString (toString r.2) = ratS r := by
        refine ext_tl ?_
        rw [t3]
        show _ = ratL r
        unfold ratL ratWords
        rw [if_neg h1]
        show _ = intL r.1 ++ ([47] ++ numL r.2.natAbs)
        rw [List.append_assoc]
      show Q (.str (Str.empty ++ Str.ofString (toString r.1) ++ "/" ++ Str.ofString (toString r.2))) H
      rw [e]
      exact q
/-! ### write_game -/
abbrev s_write_game : Stmt := top 29
theorem sc_write_game : FnScope ["name", "game", "rewards", "moves", "lines", "reward", "row", "target", "probability"] ["name", "game"] (defScope s_write_game) := ⟨rfl, rfl, rfl, by decide +kernel, rfl, by decide +kernel, by decide +kernel⟩
def linesV (fs : List Fm) : List V := fs.map fun f => V.str (lineS f)
def spWG (T0 : Addr) (K : PySem.W.Frag) : Sp := fun us H Q _ => ∃ (v : V) (g : Str × Gm), us = [.str g.1, v] ∧ Dt K H v (encG g.2) ∧ NmOk g.1 ∧ GmOk g.2 ∧ ∀ o H', Ext T0 H H' → H o = none → H' o = some (.lst (linesV (gmF g))) → Q (.ref o) H'
theorem line_game (s : Str) : ("game " : Str) ++ s = lineS (.game s) := by
  refine ext_tl ?_
  rw [tl_append, show tl ("game " : Str) = cGame ++ [32] by decide +kernel]
  show _ = cGame ++ ([32] ++ tl s)
  rw [List.append_assoc]
theorem line_state (r : Rt) : ("state " : Str) ++ ratS r = lineS (.state r) := by
  refine ext_tl ?_
  rw [tl_append, show tl ("state " : Str) = cState ++ [32] by decide +kernel]
  show _ = cState ++ ([32] ++ ratL r)
  rw [List.append_assoc]
  rfl
theorem line_disc (r : Rt) : ("discount " : Str) ++ ratS r = lineS (.disc r) := by
  refine ext_tl ?_
  rw [tl_append, show tl ("discount " : Str) = cDisc ++ [32] by decide +kernel]
  show _ = cDisc ++ ([32] ++ ratL r)
  rw [List.append_assoc]
  rfl
theorem to_1 : tl (Str.empty ++ ("to " : Str)) = cTo ++ [32] := by decide +kernel
theorem to_2 (k : Nat) : tl (Str.empty ++ ("to " : Str) ++ Str.ofString (toString ((k : Nat) : Int))) = cTo ++ [32] ++ numL k := by rw [tl_append, to_1, tl_num]
theorem to_3 (k : Nat) : tl (Str.empty ++ ("to " : Str) ++ Str.ofString (toString ((k : Nat) : Int)) ++ " ") = cTo ++ [32] ++ numL k ++ [32] := by rw [tl_append, to_2, tl_blank]
theorem line_to (k : Nat) (r : Rt) : Str.empty ++ ("to " : Str) ++ Str.ofString (toString ((k : Nat) : Int)) ++ " " ++ ratS r = lineS (.to k r) := by
  refine ext_tl ?_
  rw [tl_append, to_3]
  show _ ++ ratL r = cTo ++ ([32] ++ (numL k ++ ([32] ++ ratL r)))
  simp only [List.append_assoc]
theorem pl_1 : tl (Str.empty ++ ("place " : Str)) = cPlace ++ [32] := by decide +kernel
theorem pl_2 (s : Str) : tl (Str.empty ++ ("place " : Str) ++ s) = cPlace ++ [32] ++ tl s := by rw [tl_append, pl_1]
theorem pl_3 (s : Str) : tl (Str.empty ++ ("place " : Str) ++ s ++ " ") = cPlace ++ [32] ++ tl s ++ [32] := by rw [tl_append, pl_2, tl_blank]
theorem line_place (s : Str) (k : Nat) : Str.empty ++ ("place " : Str) ++ s ++ " " ++ Str.ofString (toString ((k : Nat) : Int)) = lineS (.place s k) := by
  refine ext_tl ?_
  rw [tl_append, pl_3, tl_num]
  show _ = cPlace ++ ([32] ++ (tl s ++ ([32] ++ numL k)))
  simp only [List.append_assoc]
theorem lineS_len {f : Fm} (h : FOk f) : (lineS f).length ≤ 200 := by
  rw [len_of (show tl (lineS f) = lineL f from rfl)]
  exact lineL_len h
theorem ratS_len {r : Rt} (h : ROk r) : (ratS r).length ≤ 122 := by
  rw [len_of (show tl (ratS r) = ratL r from rfl)]
  exact ratL_len h
theorem len_game : ("game " : Str).length = 5 := by decide +kernel
theorem len_state : ("state " : Str).length = 6 := by decide +kernel
theorem len_disc : ("discount " : Str).length = 9 := by decide +kernel
theorem linesV_len (fs : List Fm) : (linesV fs).length = fs.length := List.length_map _
theorem gmF_len {g : Str × Gm} (h : GmOk g.2) : (gmF g).length ≤ 421 := by
  have h2 : (g.2.flatMap stF).length ≤ g.2.length * 21 := flat_len stF 21 g.2 fun s hs => by
    have := (h.row s hs).len
    show (s.2.map toF).length + 1 ≤ 21
    rw [List.length_map]
    omega
  show (g.2.flatMap stF).length + 1 ≤ 421
  have := h.len
  omega
theorem stF_take_len {g : Gm} (h : GmOk g) (i : Nat) : ((g.take i).flatMap stF).length ≤ 420 := by
  have h2 : ((g.take i).flatMap stF).length ≤ (g.take i).length * 21 := flat_len stF 21 _ fun s hs => by
    have := (h.row s (List.mem_of_mem_take hs)).len
    show (s.2.map toF).length + 1 ≤ 21
    rw [List.length_map]
    omega
  have := h.len
  have h3 : (g.take i).length ≤ g.length := by
    rw [List.length_take]
    omega
  have h4 : (g.take i).length * 21 ≤ 20 * 21 := Nat.mul_le_mul_right _ (by omega)
  omega
theorem ok_write_game (D : At K mg "write_game" s_write_game) (T : Nm mg tD tL) (G_write_ratio : Ok P w K mg base 1 "write_ratio" ["value"] (spWR K)) : Ok P w K mg base 2 "write_game" ["name", "game"] (spWG T0 K) := by
  refine D.ok sc_write_game (fun _ _ _ _ _ _ us hl => match us, hl with | [_, _], _ => rfl) (fun vs H Q E h => ?_) (fun f cdv A outer s H us Q E hr h => ?_)
  · obtain ⟨_, _, rfl, _⟩ := h
    rfl
  · obtain ⟨v, g, rfl, hd, hN, hG, q⟩ := h
    obtain ⟨ga, v1, v2, rfl, sg, d1, d2⟩ := Dt.two hd
    obtain ⟨ra, rv, rfl, sr, dr⟩ := d1.tup_inv
    obtain ⟨ma, mv, rfl, sm, dm⟩ := d2.tup_inv
    have lr : rv.length = g.2.length := by have := dr.length; rw [List.length_map] at this; exact this
    have lm : mv.length = g.2.length := by have := dm.length; rw [List.length_map] at this; exact this
    refine ⟨_, (pss_cons (ps_asg (pv 1) (pg_tup rfl (pgs_cons (pg_name (i := 2) sc_write_game.nd rfl (Or.inl rfl)) (pgs_cons (pg_name (i := 3) sc_write_game.nd rfl (Or.inl rfl)) pgs_nil))))
  (pss_cons (ps_set (i := 4) sc_write_game.nd rfl (Or.inl rfl) (pe_lst (pa_cons (pe_op op_add_str pe_str (pv 0)) pa_nil)))
  (pss_cons (ps_for PassesOwn.never rfl (RZ.pi_zipA (by rfl) T.n_zip (pa_cons (pv 2) (pa_cons (pv 3) pa_nil))) (pg_tup rfl (pgs_cons (pg_name (i := 5) sc_write_game.nd rfl (Or.inl rfl)) (pgs_cons (pg_name (i := 6) sc_write_game.nd rfl (Or.inl rfl)) pgs_nil)))
  (pss_cons (ps_expr (pe_bm PySem.F.plainAttrs_list PySem.F.slot_list_append PySem.F.type_list_append mt_append (pv 4) (pa_cons (pe_op op_add_str pe_str (pe_own G_write_ratio (hr.mono (by decide)) (by rfl) (pa_cons (pv 5) pa_nil))) pa_nil)))
  (pss_one (ps_for PassesOwn.never rfl (pi_tup (pv 6)) (pg_tup rfl (pgs_cons (pg_name (i := 7) sc_write_game.nd rfl (Or.inl rfl)) (pgs_cons (pg_name (i := 8) sc_write_game.nd rfl (Or.inl rfl)) pgs_nil)))
  (pss_one (ps_expr (pe_bm PySem.F.plainAttrs_list PySem.F.slot_list_append PySem.F.type_list_append mt_append (pv 4) (pa_cons (pe_op op_add_str (pe_joined (.cons pe_str (.cons (pe_fmt (pv 7)) (.cons pe_str .nil)))) (pe_own G_write_ratio (hr.mono (by decide)) (by rfl) (pa_cons (pv 8) pa_nil))) pa_nil))))))))
  (pss_one (ps_ret (pv 4)))))), ?_⟩
    have hnl := hN.le
    refine ⟨_, rfl, ga, _, rfl, sg, rfl, _, _, rfl, _, _, rfl, rfl, ?_⟩
    refine ⟨_, rfl, _, _, rfl, rfl, le_line (by rw [len_game]; omega), by show 1 ≤ sizeLine; rw [sizeLine_eq]; decide, fun o no => ?_⟩
    rw [line_game]
    have n1 := Ext.new (T := T0) (o := .lst [V.str (lineS (.game g.1))]) no
    refine ⟨_, rfl, _, rfl, ra, ma, rv, mv, rfl, .inr ⟨n1.seqT sr, n1.seqT sm, RZ.for_zipT (K := K) (a := ra) (b := ma) (xs := rv) (ys := mv) (lr.trans lm.symm) (fun i σ H' => ∃ y5 y6 y7 y8 : Option V, σ = [some (.str g.1), some (.ref ga), some (.ref ra), some (.ref ma), some (.ref o), y5, y6, y7, y8] ∧ Ext T0 H H' ∧
        H' o = some (.lst (linesV (.game g.1 :: (g.2.take i).flatMap stF))))
      ⟨none, none, none, none, rfl, n1, upd_same⟩ (fun i σ H' ⟨_, _, _, _, _, x, _⟩ => ⟨x.seqT sr, x.seqT sm⟩) ?_ ?_⟩⟩
    · rintro i x y t σ H' hx hy ⟨y5, y6, y7, y8, rfl, xx, ho⟩ nt
      have hi : i < g.2.length := by
        have := (List.getElem?_eq_some_iff.mp hx).1
        omega
      have es : g.2[i]? = some g.2[i] := List.getElem?_eq_getElem hi
      obtain ⟨st, est⟩ : ∃ st, g.2[i]? = some st := ⟨_, es⟩
      obtain ⟨dx, edx, hdx⟩ := dr.get' hx
      obtain ⟨dy, edy, hdy⟩ := dm.get' hy
      rw [List.getElem?_map, est] at edx edy
      cases edx
      cases edy
      have R := hG.row st (List.mem_of_getElem? est)
      have hrw := hG.rew st (List.mem_of_getElem? est)
      have n2 := Ext.new (T := T0) (o := .tup [x, y]) nt
      have x2 := xx.trans n2
      have ho2 := n2.lst ho
      have hlen := stF_take_len hG i
      refine ⟨t, _, rfl, SqT.of upd_same, rfl, _, _, rfl, _, _, rfl, rfl, ?_⟩
      refine ⟨_, rfl, .inl ⟨rfl, _, SqL.of ho2⟩, _, rfl, x, st.1, rfl, hdx.ext x2, hrw, _, _, rfl, rfl, le_line (by rw [len_state]; have := ratS_len hrw; omega), ?_⟩
      rw [line_state]
      refine ⟨o, _, _, rfl, rfl, ho2, lt_line (by rw [linesV_len]; show (_ + 1) ≤ _; omega), ?_⟩
      have x3 := x2.put (o := .lst (linesV (.game g.1 :: (g.2.take i).flatMap stF) ++ [.str (lineS (.state st.1))])) no
      have tx3 := TupX.lst (o := .lst (linesV (.game g.1 :: (g.2.take i).flatMap stF) ++ [.str (lineS (.state st.1))])) ho2
      have hdy3 := (hdy.ext x2).tx tx3
      obtain ⟨rowa, rowv, rfl, srow, drow⟩ := hdy3.tup_inv
      have lrow : rowv.length = st.2.length := by have := drow.length; rw [List.length_map] at this; exact this
      refine ⟨_, rfl, rowa, rfl, ⟨_, srow⟩, for_tup (K := K) (a := rowa) (xs := rowv) (fun j σ H'' => ∃ y7 y8 : Option V, σ = [some (.str g.1), some (.ref ga), some (.ref ra), some (.ref ma), some (.ref o), some x, some (.ref rowa), y7, y8] ∧ Ext T0 H H'' ∧ SqT K H'' rowa rowv ∧ DtAll K H'' rowv (st.2.map encT) ∧
          H'' o = some (.lst (linesV (.game g.1 :: ((g.2.take i).flatMap stF ++ .state st.1 :: (st.2.take j).map toF)))))
        ⟨y7, y8, rfl, x3, srow, drow, ?_⟩ (fun j σ H'' _ ⟨_, _, _, _, q, _⟩ => q) ?_ ?_⟩
      · rw [upd_same]
        unfold linesV
        simp
      · rintro j u σ H'' hu ⟨y7, y8, rfl, x4, srow4, drow4, ho4⟩
        have hj : j < st.2.length := by
          have := (List.getElem?_eq_some_iff.mp hu).1
          omega
        obtain ⟨tt, ett⟩ : ∃ tt, st.2[j]? = some tt := ⟨_, List.getElem?_eq_getElem hj⟩
        obtain ⟨du, edu, hdu⟩ := drow4.get' hu
        rw [List.getElem?_map, ett] at edu
        cases edu
        obtain ⟨ua, u1, u2, rfl, su, du1, du2⟩ := Dt.two hdu
        have e1 := du1.int_inv
        subst e1
        have htt := R.ok tt (List.mem_of_getElem? ett)
        have htl := R.lt tt (List.mem_of_getElem? ett)
        have hg20 := hG.len
        have l1 := numL_20 (n := tt.1) (by omega)
        have l2 := ratS_len htt
        refine ⟨ua, _, rfl, su, rfl, _, _, rfl, _, _, rfl, rfl, ?_⟩
        refine ⟨_, rfl, .inl ⟨rfl, _, SqL.of ho4⟩, _, rfl, str_le to_1 (by decide), _, rfl, .inr ⟨_, rfl, log_60 (Nat.lt_of_le_of_lt (by omega : tt.1 ≤ 20) (by decide)), _, rfl, str_le (to_2 _) (by simp [cTo]; omega), _, rfl, str_le (to_3 _) (by simp [cTo]; omega), ?_⟩⟩
        refine ⟨_, rfl, _, tt.2, rfl, du2, htt, _, _, rfl, rfl, le_line (by rw [len_of (to_3 tt.1)]; simp [cTo]; omega), ?_⟩
        rw [line_to]
        refine ⟨o, _, _, rfl, rfl, ho4, lt_line ?_, ?_⟩
        · rw [linesV_len, List.length_cons, List.length_append, List.length_cons, List.length_map, List.length_take]
          have := R.len
          omega
        · have tx4 := TupX.lst (o := .lst (linesV (.game g.1 :: ((g.2.take i).flatMap stF ++ .state st.1 :: (st.2.take j).map toF)) ++ [.str (lineS (.to tt.1 tt.2))])) ho4
          refine ⟨_, _, rfl, x4.put no, tx4.seqT srow4, drow4.tx tx4, ?_⟩
          rw [upd_same, take_at ett]
          unfold linesV
          simp [toF]
      · rintro σ H'' ⟨y7, y8, rfl, x4, srow4, drow4, ho4⟩
        refine ⟨_, _, _, _, rfl, x4, ?_⟩
        rw [ho4, lrow, List.take_length, take_at est, List.flatMap_append]
        simp [stF]
    · rintro σ H' ⟨y5, y6, y7, y8, rfl, xx, ho⟩
      rw [lr, List.take_length] at ho
      exact ⟨_, rfl, q o H' xx no ho⟩
/-! ### write_book -/
abbrev s_write_book : Stmt := top 30
theorem sc_write_book : FnScope ["book", "discount", "games", "places", "lines", "name", "game", "state", "line"] ["book"] (defScope s_write_book) := ⟨rfl, rfl, rfl, by decide +kernel, rfl, by decide +kernel, by decide +kernel⟩
def spWB (T0 : Addr) (K : PySem.W.Frag) : Sp := fun us H Q _ => ∃ (v : V) (b : Book), us = [v] ∧ Dt K H v (encB b) ∧ BOk b ∧ ∀ H', Ext T0 H H' → Q (.str (textS (formsOf b))) H'
theorem tl_none : tl ("" : Str) = [] := by decide +kernel
theorem len_none : ("" : Str).length = 0 := by decide +kernel
theorem len_nl : ("\n" : Str).length = 1 := by decide +kernel
def endS (f : Fm) : Str := lineS f ++ "\n"
theorem tl_end (f : Fm) : tl (endS f) = lineL f ++ [10] := by
  unfold endS
  rw [tl_append, tl_nl]
  rfl
theorem joinL_nil : ∀ l : List (List Nat), joinL [] l = l.flatten
  | [] => rfl
  | [p] => by simp [joinL]
  | p :: q :: r => by
    show p ++ ([] ++ joinL [] (q :: r)) = _
    rw [joinL_nil (q :: r)]
    rfl
theorem join_text (fs : List Fm) : Txt.join "" (fs.map endS) = textS fs := by
  refine ext_tl ?_
  rw [join_eq, tl_join, tl_none, joinL_nil, List.map_map]
  show _ = textL fs
  rw [textL_flat]
  induction fs with
  | nil => rfl
  | cons f r ih =>
    rw [List.map_cons, List.flatten_cons, List.flatMap_cons, ih]
    show tl (endS f) ++ _ = _
    rw [tl_end]
theorem sum_le {α : Type} (f : α → Nat) (m : Nat) : ∀ l : List α, (∀ x ∈ l, f x ≤ m) → (l.map f).sum ≤ l.length * m
  | [], _ => by simp
  | x :: r, h => by
    have h1 := h x (List.mem_cons_self ..)
    have h2 := sum_le f m r fun y hy => h y (List.mem_cons_of_mem _ hy)
    rw [List.map_cons, List.sum_cons, List.length_cons, Nat.succ_mul]
    omega
theorem ok_write_book (D : At K mg "write_book" s_write_book) (T : Nm mg tD tL) (G_write_ratio : Ok P w K mg base 1 "write_ratio" ["value"] (spWR K)) (G_write_game : Ok P w K mg base 2 "write_game" ["name", "game"] (spWG T0 K)) : Ok P w K mg base 3 "write_book" ["book"] (spWB T0 K) := by
  refine D.ok sc_write_book (fun _ _ _ _ _ _ us hl => match us, hl with | [_], _ => rfl) (fun vs H Q E h => ?_) (fun f cdv A outer s H us Q E hr h => ?_)
  · obtain ⟨_, _, rfl, _⟩ := h
    rfl
  · obtain ⟨v, b, rfl, hd, hB, q⟩ := h
    obtain ⟨ba, v1, v2, v3, rfl, sb, d1, d2, d3⟩ := Dt.three hd
    obtain ⟨ga, gv, rfl, sg, dg⟩ := d2.tup_inv
    obtain ⟨pa, pvs, rfl, sp, dp⟩ := d3.tup_inv
    have lg : gv.length = b.games.length := by have := dg.length; rw [List.length_map] at this; exact this
    have lp : pvs.length = b.places.length := by have := dp.length; rw [List.length_map] at this; exact this
    refine ⟨_, (pss_cons (ps_asg (pv 0) (pg_tup rfl (pgs_cons (pg_name (i := 1) sc_write_book.nd rfl (Or.inl rfl)) (pgs_cons (pg_name (i := 2) sc_write_book.nd rfl (Or.inl rfl)) (pgs_cons (pg_name (i := 3) sc_write_book.nd rfl (Or.inl rfl)) pgs_nil)))))
  (pss_cons (ps_set (i := 4) sc_write_book.nd rfl (Or.inl rfl) (pe_lst (pa_cons (pe_op op_add_str pe_str (pe_own G_write_ratio (hr.mono (by decide)) (by rfl) (pa_cons (pv 1) pa_nil))) pa_nil)))
  (pss_cons (ps_for PassesOwn.never rfl (pi_tup (pv 2)) (pg_tup rfl (pgs_cons (pg_name (i := 5) sc_write_book.nd rfl (Or.inl rfl)) (pgs_cons (pg_name (i := 6) sc_write_book.nd rfl (Or.inl rfl)) pgs_nil)))
  (pss_one (ps_expr (pe_bm PySem.F.plainAttrs_list PySem.F.slot_list_extend PySem.F.type_list_extend mt_extend (pv 4) (pa_cons (pe_own G_write_game (hr.mono (by decide)) (by rfl) (pa_cons (pv 5) (pa_cons (pv 6) pa_nil))) pa_nil)))))
  (pss_cons (ps_for PassesOwn.never rfl (pi_tup (pv 3)) (pg_tup rfl (pgs_cons (pg_name (i := 5) sc_write_book.nd rfl (Or.inl rfl)) (pgs_cons (pg_name (i := 7) sc_write_book.nd rfl (Or.inl rfl)) pgs_nil)))
  (pss_one (ps_expr (pe_bm PySem.F.plainAttrs_list PySem.F.slot_list_append PySem.F.type_list_append mt_append (pv 4) (pa_cons (pe_joined (.cons pe_str (.cons (pe_fmt (pv 5)) (.cons pe_str (.cons (pe_fmt (pv 7)) .nil))))) pa_nil)))))
  (pss_one (ps_ret (pe_join pe_str (pe_lc (own := [("line", 8)]) (g := _) (tt := _) rfl sc_write_book.nd (pi_list (pv 4)) (blkOk_by (own := [("line", 8)]) (N := ["book", "discount", "games", "places", "lines", "name", "game", "state", "line"]) (sc := defScope s_write_book) (by decide +kernel)) (fun _ _ _ _ _ => (pg_name (i := 8) sc_write_book.nd rfl (Or.inl rfl))) (fun _ _ _ _ _ => pts_nil) (fun _ _ _ _ _ => (pe_op op_add_str (pv 8) pe_str)))))))))), ?_⟩
    refine ⟨_, rfl, ba, _, rfl, sb, rfl, _, _, rfl, _, _, rfl, _, _, rfl, rfl, ?_⟩
    refine ⟨_, rfl, _, b.disc, rfl, d1, hB.disc, _, _, rfl, rfl, le_line (by rw [len_disc]; have := ratS_len hB.disc; omega), by show 1 ≤ sizeLine; rw [sizeLine_eq]; decide, fun o no => ?_⟩
    rw [line_disc]
    have n1 := Ext.new (T := T0) (o := .lst [V.str (lineS (.disc b.disc))]) no
    have hglen := hB.glen
    have hplen := hB.plen
    have gbound : ∀ i, ((b.games.take i).flatMap gmF).length ≤ 4210 := fun i => by
      have h1 : ((b.games.take i).flatMap gmF).length ≤ (b.games.take i).length * 421 := flat_len gmF 421 _ fun g hg => gmF_len (hB.gm g (List.mem_of_mem_take hg))
      have h3 : (b.games.take i).length ≤ 10 := by rw [List.length_take]; omega
      have h4 : (b.games.take i).length * 421 ≤ 10 * 421 := Nat.mul_le_mul_right _ h3
      omega
    refine ⟨_, rfl, ga, rfl, ⟨_, n1.seqT sg⟩, for_tup (K := K) (a := ga) (xs := gv) (fun i σ H' => ∃ y5 y6 : Option V, σ = [some (.ref ba), some v1, some (.ref ga), some (.ref pa), some (.ref o), y5, y6, none, none] ∧ Ext T0 H H' ∧ H' o = some (.lst (linesV (.disc b.disc :: (b.games.take i).flatMap gmF))))
      ⟨none, none, rfl, n1, upd_same⟩ (fun i σ H' _ ⟨_, _, _, x, _⟩ => x.seqT sg) ?_ ?_⟩
    · rintro i x σ H' hx ⟨y5, y6, rfl, xx, ho⟩
      have hi : i < b.games.length := by
        have := (List.getElem?_eq_some_iff.mp hx).1
        omega
      obtain ⟨g, eg⟩ : ∃ g, b.games[i]? = some g := ⟨_, List.getElem?_eq_getElem hi⟩
      obtain ⟨dx, edx, hdx⟩ := dg.get' hx
      rw [List.getElem?_map, eg] at edx
      cases edx
      obtain ⟨xa, x1, x2, rfl, sx, dx1, dx2⟩ := Dt.two hdx
      have e1 := dx1.str_inv
      subst e1
      have hG := hB.gm g (List.mem_of_getElem? eg)
      refine ⟨xa, _, rfl, xx.seqT sx, rfl, _, _, rfl, _, _, rfl, rfl, ?_⟩
      refine ⟨_, rfl, .inl ⟨rfl, _, SqL.of ho⟩, _, rfl, _, rfl, x2, g, rfl, dx2.ext xx, hB.nm g (List.mem_of_getElem? eg), hG, fun o2 H3 x3 no2 ho2 => ?_⟩
      have hb1 := gbound i
      have hb2 := gmF_len hG
      refine ⟨o, o2, _, _, rfl, rfl, x3.lst ho, ho2, le_line (by rw [linesV_len, linesV_len, List.length_cons]; omega), ?_⟩
      refine ⟨_, _, rfl, (xx.trans x3).put no, ?_⟩
      rw [upd_same, take_at eg, List.flatMap_append]
      unfold linesV
      simp
    · rintro σ H' ⟨y5, y6, rfl, xx, ho⟩
      rw [lg, List.take_length] at ho
      have hbg := gbound b.games.length
      rw [List.take_length] at hbg
      refine ⟨_, rfl, pa, rfl, ⟨_, xx.seqT sp⟩, for_tup (K := K) (a := pa) (xs := pvs) (fun i σ H' => ∃ y5 y6 y7 : Option V, σ = [some (.ref ba), some v1, some (.ref ga), some (.ref pa), some (.ref o), y5, y6, y7, none] ∧ Ext T0 H H' ∧ H' o = some (.lst (linesV (.disc b.disc :: (b.games.flatMap gmF ++ (b.places.take i).map plF)))))
        ⟨y5, y6, none, rfl, xx, by rw [ho]; simp⟩ (fun i σ H' _ ⟨_, _, _, _, x, _⟩ => x.seqT sp) ?_ ?_⟩
      · rintro i x σ H2 hx ⟨y5, y6, y7, rfl, x2, ho2⟩
        have hi : i < b.places.length := by
          have := (List.getElem?_eq_some_iff.mp hx).1
          omega
        obtain ⟨p, ep⟩ : ∃ p, b.places[i]? = some p := ⟨_, List.getElem?_eq_getElem hi⟩
        obtain ⟨dx, edx, hdx⟩ := dp.get' hx
        rw [List.getElem?_map, ep] at edx
        cases edx
        obtain ⟨xa, u1, u2, rfl, sx, du1, du2⟩ := Dt.two hdx
        have e1 := du1.str_inv
        have e2 := du2.int_inv
        subst e1
        subst e2
        obtain ⟨g, hg, hk⟩ := hB.pl p (List.mem_of_getElem? ep)
        have hnm : p.1.length ≤ 20 := (hB.nm _ hg).le
        have h20 : g.length ≤ 20 := (hB.gm _ hg).len
        have hk20 : p.2 ≤ 20 := Nat.le_trans (Nat.le_of_lt hk) h20
        have l1 := numL_20 hk20
        have hnm' : (tl p.1).length ≤ 20 := by rw [← len_tl]; exact hnm
        refine ⟨xa, _, rfl, x2.seqT sx, rfl, _, _, rfl, _, _, rfl, rfl, ?_⟩
        refine ⟨_, rfl, .inl ⟨rfl, _, SqL.of ho2⟩, _, rfl, str_le pl_1 (by decide), _, rfl, .inl ⟨p.1, rfl, le_line (by omega), _, rfl, str_le (pl_2 _) (by simp [cPlace] at hnm' ⊢; omega), _, rfl, str_le (pl_3 _) (by simp [cPlace] at hnm' ⊢; omega), _, rfl, .inr ⟨_, rfl, log_60 (Nat.lt_of_le_of_lt hk20 (by decide)), _, rfl, ?_, ?_⟩⟩⟩
        · have hp4 : tl (Str.empty ++ ("place " : Str) ++ p.1 ++ " " ++ Str.ofString (toString ((p.2 : Nat) : Int))) = cPlace ++ [32] ++ tl p.1 ++ [32] ++ numL p.2 := by rw [tl_append, pl_3, tl_num]
          exact str_le hp4 (by simp [cPlace] at hnm' ⊢; omega)
        · rw [line_place]
          refine ⟨o, _, _, rfl, rfl, ho2, lt_line ?_, ?_⟩
          · rw [linesV_len, List.length_cons, List.length_append, List.length_map, List.length_take]
            omega
          · refine ⟨_, _, _, rfl, x2.put no, ?_⟩
            rw [upd_same, take_at ep]
            unfold linesV
            simp [plF]
      · rintro σ H2 ⟨y5, y6, y7, rfl, x2, ho2⟩
        rw [lp, List.take_length] at ho2
        have ho3 : H2 o = some (.lst (linesV (formsOf b))) := ho2
        refine ⟨⟨_, rfl⟩, _, rfl, o, rfl, ⟨_, SqL.of ho3⟩, fun D nD => ?_⟩
        refine lc_list (K := K) (a := o) (xs := linesV (formsOf b)) (fun j H'' => Ext T0 H2 H'' ∧ H'' D = some (.lst (((formsOf b).take j).map fun f => V.str (endS f))))
          ⟨Ext.new nD, upd_same⟩ (fun j H'' _ ⟨x, _⟩ => SqL.of (x.lst ho3)) ?_ ?_
        · rintro j u H'' hu ⟨x3, hD⟩
          unfold linesV at hu
          rw [List.getElem?_map] at hu
          cases ef : (formsOf b)[j]? with
          | none =>
            rw [ef] at hu
            cases hu
          | some fm =>
            rw [ef] at hu
            cases hu
            have hfm := fok_forms hB fm (List.mem_of_getElem? ef)
            have hl := lineS_len hfm
            have hfl := len_forms hB
            refine ⟨rfl, ?_⟩
            refine ⟨_, rfl, _, _, rfl, rfl, le_line (by rw [len_nl]; omega), _, hD, lt_line (by rw [List.length_map, List.length_take]; omega), x3.put nD, ?_⟩
            rw [upd_same, take_at ef, List.map_append]
            rfl
        · rintro H'' ⟨x3, hD⟩
          rw [linesV_len, List.take_length] at hD
          have hfl := len_forms hB
          refine ⟨_, D, (formsOf b).map endS, rfl, rfl, .inl (SqL.of (by rw [hD, List.map_map]; rfl)), ?_, ?_⟩
          · rw [len_none, Nat.mul_zero, Nat.add_zero, List.map_map]
            have := sum_le (fun f => (endS f).length) 201 (formsOf b) fun f hf => by
              rw [len_of (tl_end f)]
              have := lineL_len (fok_forms hB f hf)
              rw [List.length_append, List.length_singleton]
              omega
            have h2 : ((formsOf b).map (String.length ∘ fun _ => "")).length = (formsOf b).length := List.length_map _
            have h3 : (formsOf b).length * 201 ≤ 4300 * 201 := Nat.mul_le_mul_right _ hfl
            exact Nat.le_trans this (by omega)
          · rw [join_text]
            exact q _ (x2.trans x3)
end
end Bk

namespace Bk
open PySem PySem.Spec PyProof.Rows L2 GxR TL
/-- the game of a name -/
def gameOf (gs : List (Str × Gm)) (s : Str) : Gm := ((gs.find? fun g => decide (g.1 = s)).map (·.2)).getD []
theorem gameOf_mem : ∀ {gs : List (Str × Gm)} {s : Str} {g : Gm}, (gs.map (·.1)).Nodup → (s, g) ∈ gs → gameOf gs s = g
  | [], _, _, _, h => by cases h
  | p :: r, s, g, hn, h => by
    have hn' := List.nodup_cons.mp hn
    unfold gameOf
    rcases List.mem_cons.mp h with e | h
    · subst e
      rw [List.find?_cons, decide_eq_true rfl]
      rfl
    · have hne : ¬ p.1 = s := fun e => hn'.1 (List.mem_map.mpr ⟨(s, g), h, e.symm⟩)
      rw [List.find?_cons, decide_eq_false hne]
      exact gameOf_mem hn'.2 h
def encPl (gs : List (Str × Gm)) (p : Str × Nat) : PyData := .tuple [encG (gameOf gs p.1), .int p.2]
def encC (b : Book) : PyData := .tuple (b.places.map (encPl b.games))
section
variable {P : Program} {w : World} {K : PySem.W.Frag} {mg : Str → Option Value} {base : Heap} {T0 c0 : Addr} {tD tL : Tok}
/-! ### company_of -/
abbrev s_company_of : Stmt := top 26
theorem sc_company_of : FnScope ["book", "games", "name", "game", "state"] ["book"] (defScope s_company_of) := ⟨rfl, rfl, rfl, by decide +kernel, rfl, by decide +kernel, by decide +kernel⟩
def spCo (T0 : Addr) (K : PySem.W.Frag) : Sp := fun us H Q _ => ∃ (v : V) (b : Book), us = [v] ∧ Dt K H v (encB b) ∧ BOk b ∧ Gives T0 K H Q (encC b)
theorem ok_company_of (D : At K mg "company_of" s_company_of) (T : Nm mg tD tL) : Ok P w K mg base 1 "company_of" ["book"] (spCo T0 K) := by
  refine D.ok sc_company_of (fun _ _ _ _ _ _ us hl => match us, hl with | [_], _ => rfl) (fun vs H Q E h => ?_) (fun f cdv A outer s H us Q E hr h => ?_)
  · obtain ⟨_, _, rfl, _⟩ := h
    rfl
  · obtain ⟨v, b, rfl, hd, hB, q⟩ := h
    obtain ⟨ba, v1, v2, v3, rfl, sb, d1, d2, d3⟩ := Dt.three hd
    obtain ⟨ga, gv, rfl, sg, dg⟩ := d2.tup_inv
    obtain ⟨pa, pvs, rfl, sp, dp⟩ := d3.tup_inv
    have lg : gv.length = b.games.length := by have := dg.length; rw [List.length_map] at this; exact this
    have lp : pvs.length = b.places.length := by have := dp.length; rw [List.length_map] at this; exact this
    have hglen := hB.glen
    have hplen := hB.plen
    refine ⟨_, (pss_cons (ps_set (i := 1) sc_company_of.nd rfl (Or.inr rfl) (pe_dc (own := [("name", 2), ("game", 3)]) (g := gTup K 2 (gCons (gName 2) (gCons (gName 3) gNil))) (tt := tYes) rfl sc_company_of.nd (pi_tup (pe_ix ix_tup (pv 0) pe_int (fun _ _ => rfl))) (blkOk_by (own := [("name", 2), ("game", 3)]) (N := ["book", "games", "name", "game", "state"]) (sc := defScope s_company_of) (by decide +kernel)) (fun _ _ _ _ _ => (pg_tup rfl (pgs_cons (pg_name (i := 2) sc_company_of.nd rfl (Or.inl rfl)) (pgs_cons (pg_name (i := 3) sc_company_of.nd rfl (Or.inl rfl)) pgs_nil)))) (fun _ _ _ _ _ => pts_nil) (fun _ _ _ _ _ => (pv 2)) (fun _ _ _ _ _ => (pv 3))))
  (pss_one (ps_ret (pe_callTy call_tuple_of (by rfl) T.n_tuple (by decide +kernel) (pa_cons (pe_lc (own := [("name", 2), ("state", 4)]) (g := gTup K 2 (gCons (gName 2) (gCons (gName 4) gNil))) (tt := tYes) rfl sc_company_of.nd (pi_tup (pe_ix ix_tup (pv 0) pe_int (fun _ _ => rfl))) (blkOk_by (own := [("name", 2), ("state", 4)]) (N := ["book", "games", "name", "game", "state"]) (sc := defScope s_company_of) (by decide +kernel)) (fun _ _ _ _ _ => (pg_tup rfl (pgs_cons (pg_name (i := 2) sc_company_of.nd rfl (Or.inl rfl)) (pgs_cons (pg_name (i := 4) sc_company_of.nd rfl (Or.inl rfl)) pgs_nil)))) (fun _ _ _ _ _ => pts_nil) (fun _ _ _ _ _ => (pe_tup (pa_cons (pe_dget (hu_of hr) (pv 1) (pv 2) (fun _ _ => rfl)) (pa_cons (pv 4) pa_nil))))) pa_nil))))), ?_⟩
    refine ⟨_, rfl, ba, _, 1, _, rfl, rfl, sb, at1, ga, rfl, ⟨_, sg⟩, fun D nD => ?_⟩
    have n1 := Ext.new (T := T0) (o := .dK []) nD
    refine dc_tup (K := K) (a := ga) (xs := gv) (fun i H' => Ext T0 H H' ∧ ∃ kvs : List (Key × V), H' D = some (.dK kvs) ∧ kvs.map (·.1) = (b.games.take i).map (fun g => (Sum.inr g.1 : Key)) ∧ DtAll K H' (kvs.map (·.2)) ((b.games.take i).map fun g => encG g.2))
      ⟨n1, [], upd_same, rfl, .nil⟩ (fun i H' _ ⟨x, _⟩ => x.seqT sg) ?_ ?_
    · rintro i x H' hx ⟨xx, kvs, hD, ek, dk⟩
      have hi : i < b.games.length := by
        have := (List.getElem?_eq_some_iff.mp hx).1
        omega
      obtain ⟨g, eg⟩ : ∃ g, b.games[i]? = some g := ⟨_, List.getElem?_eq_getElem hi⟩
      obtain ⟨dx, edx, hdx⟩ := dg.get' hx
      rw [List.getElem?_map, eg] at edx
      cases edx
      obtain ⟨xa, x1, x2, rfl, sx, dx1, dx2⟩ := Dt.two hdx
      have e1 := dx1.str_inv
      subst e1
      have lk : kvs.length ≤ 10 := by
        have := congrArg List.length ek
        rw [List.length_map, List.length_map, List.length_take] at this
        omega
      have fresh : ∀ p ∈ kvs, p.1 ≠ (Sum.inr g.1 : Key) := by
        intro p hp e
        have hm : (Sum.inr g.1 : Key) ∈ kvs.map (·.1) := List.mem_map.mpr ⟨p, hp, e⟩
        rw [ek] at hm
        obtain ⟨g', hg', e'⟩ := List.mem_map.mp hm
        have en : g'.1 = g.1 := Sum.inr.inj e'
        have hn := hB.nd
        have : b.games.map (·.1) = (b.games.take i).map (·.1) ++ (b.games.drop i).map (·.1) := by rw [← List.map_append, List.take_append_drop]
        rw [this] at hn
        refine (List.nodup_append.mp hn).2.2 g'.1 (List.mem_map.mpr ⟨g', hg', rfl⟩) g.1 ?_ en
        rw [drop_at eg]
        exact List.mem_cons_self ..
      refine ⟨xa, _, rfl, xx.seqT sx, rfl, _, _, rfl, _, _, rfl, rfl, ?_⟩
      refine ⟨rfl, ?_⟩
      refine ⟨_, rfl, _, rfl, kvs, Sum.inr g.1, rfl, hD, lt_line (by omega), xx.put nD, kvs ++ [(Sum.inr g.1, x2)], ?_, ?_, ?_⟩
      · rw [upd_same, put_new fresh]
      · rw [List.map_append, ek, take_at eg, List.map_append]
        rfl
      · rw [List.map_append, take_at eg, List.map_append]
        have tx := TupX.dk (o := .dK (putK kvs (Sum.inr g.1) x2)) hD
        exact (dk.tx tx).append (.cons ((dx2.ext xx).tx tx) .nil)
    · rintro H1 ⟨x1, kvs, hD, ek, dk⟩
      rw [lg, List.take_length] at ek dk
      have hkn : (kvs.map (·.1)).Nodup := by
        rw [ek]
        have := nd_inr hB.nd
        rw [List.map_map] at this
        exact this
      refine ⟨_, rfl, ba, _, 2, _, rfl, rfl, x1.seqT sb, at2, pa, rfl, ⟨_, x1.seqT sp⟩, fun L nL => ?_⟩
      have n2 := Ext.new (T := T0) (o := .lst []) nL
      refine lc_tup (K := K) (a := pa) (xs := pvs) (fun i H' => Ext T0 H1 H' ∧ ∃ acc, H' L = some (.lst acc) ∧ DtAll K H' acc ((b.places.take i).map (encPl b.games)))
        ⟨n2, [], upd_same, .nil⟩ (fun i H' _ ⟨x, _⟩ => x.seqT (x1.seqT sp)) ?_ ?_
      · rintro i x H' hx ⟨xx, acc, hL, dacc⟩
        have hi : i < b.places.length := by
          have := (List.getElem?_eq_some_iff.mp hx).1
          omega
        obtain ⟨p, ep⟩ : ∃ p, b.places[i]? = some p := ⟨_, List.getElem?_eq_getElem hi⟩
        obtain ⟨dx, edx, hdx⟩ := dp.get' hx
        rw [List.getElem?_map, ep] at edx
        cases edx
        obtain ⟨xa, u1, u2, rfl, sx, du1, du2⟩ := Dt.two hdx
        have e1 := du1.str_inv
        have e2 := du2.int_inv
        subst e1
        subst e2
        obtain ⟨g, hg, hk⟩ := hB.pl p (List.mem_of_getElem? ep)
        obtain ⟨j, hj⟩ := List.getElem?_of_mem hg
        have ek1 : (kvs.map (·.1))[j]? = some (Sum.inr p.1 : Key) := by rw [ek, List.getElem?_map, hj]; rfl
        obtain ⟨gw, egw, dgw⟩ := dk.get (show (b.games.map fun g => encG g.2)[j]? = some (encG g) by rw [List.getElem?_map, hj]; rfl)
        have hmem : ((Sum.inr p.1 : Key), gw) ∈ kvs := by
          rw [List.getElem?_map] at ek1 egw
          cases eq : kvs[j]? with
          | none =>
            rw [eq] at ek1
            cases ek1
          | some kv =>
            rw [eq] at ek1 egw
            have h1 : kv.1 = Sum.inr p.1 := Option.some.inj ek1
            have h2 : kv.2 = gw := Option.some.inj egw
            have : kv = (Sum.inr p.1, gw) := by rw [← h1, ← h2]
            rw [← this]
            exact List.mem_of_getElem? eq
        have hval := val_mem hkn hmem
        have hgo : gameOf b.games p.1 = g := gameOf_mem hB.nd hg
        have lacc : acc.length ≤ 10 := by
          have := dacc.length
          rw [List.length_map, List.length_take] at this
          omega
        refine ⟨xa, _, rfl, xx.seqT (x1.seqT sx), rfl, _, _, rfl, _, _, rfl, rfl, ?_⟩
        refine ⟨rfl, ?_⟩
        refine ⟨_, rfl, _, rfl, D, gw, rfl, ?_, _, rfl, sz2, fun t nt => ?_⟩
        · rw [← hval]
          exact DGet.k (k := Sum.inr p.1) (xx.dk hD)
        · have n3 := Ext.new (T := T0) (o := .tup [gw, .int (p.2 : Nat)]) nt
          have hL1 := n3.lst hL
          have dn : Dt K _ (.ref t) (encPl b.games p) := .newT nt (.cons (by rw [hgo]; exact dgw.ext xx) (.cons (.int _) .nil))
          refine ⟨acc, hL1, lt_line (by omega), (xx.trans n3).put nL, _, upd_same, ?_⟩
          have tx := TupX.lst (o := .lst (acc ++ [.ref t])) hL1
          rw [take_at ep, List.map_append]
          exact ((dacc.ext n3).tx tx).snoc (dn.tx tx)
      · rintro H2 ⟨xx, acc, hL, dacc⟩
        rw [lp, List.take_length] at dacc
        exact ⟨L, acc, rfl, .inl ⟨SqL.of hL, q.tup (x1.trans xx) dacc⟩⟩
/-! ### _law_company -/
abbrev s_law_company : Stmt := top 43
theorem sc_law_company : FnScope ["_law_book_here", "_law_places", "_law_place", "_law_pair"] ["_law_book_here"] (defScope s_law_company) := ⟨rfl, rfl, rfl, by decide +kernel, rfl, by decide +kernel, by decide +kernel⟩
theorem filter_none {s : Str} : ∀ {gs : List (Str × Gm)}, s ∉ gs.map (·.1) → gs.filter (fun x => decide (x.1 = s)) = []
  | [], _ => rfl
  | p :: r, h => by
    rw [List.filter_cons_of_neg (by rw [decide_eq_true_eq]; exact fun e => h (List.mem_map.mpr ⟨p, List.mem_cons_self .., e⟩))]
    exact filter_none fun z => h (List.mem_cons_of_mem _ z)
theorem filter_one {s : Str} {g : Gm} : ∀ {gs : List (Str × Gm)}, (gs.map (·.1)).Nodup → (s, g) ∈ gs → gs.filter (fun x => decide (x.1 = s)) = [(s, g)]
  | [], _, h => by cases h
  | p :: r, hn, h => by
    have hn' := List.nodup_cons.mp hn
    rcases List.mem_cons.mp h with e | h
    · subst e
      rw [List.filter_cons_of_pos (by rw [decide_eq_true_eq]), filter_none hn'.1]
    · have hne : ¬ p.1 = s := fun e => hn'.1 (List.mem_map.mpr ⟨(s, g), h, e.symm⟩)
      rw [List.filter_cons_of_neg (by rw [decide_eq_true_eq]; exact hne)]
      exact filter_one hn'.2 h
theorem ok_law_company (D : At K mg "_law_company" s_law_company) (T : Nm mg tD tL) : Ok P w K mg base 1 "_law_company" ["_law_book_here"] (spCo T0 K) := by
  refine D.ok sc_law_company (fun _ _ _ _ _ _ us hl => match us, hl with | [_], _ => rfl) (fun vs H Q E h => ?_) (fun f cdv A outer s H us Q E hr h => ?_)
  · obtain ⟨_, _, rfl, _⟩ := h
    rfl
  · obtain ⟨v, b, rfl, hd, hB, q⟩ := h
    obtain ⟨ba, v1, v2, v3, rfl, sb, d1, d2, d3⟩ := Dt.three hd
    obtain ⟨ga, gv, rfl, sg, dg⟩ := d2.tup_inv
    obtain ⟨pa, pvs, rfl, sp, dp⟩ := d3.tup_inv
    have lg : gv.length = b.games.length := by have := dg.length; rw [List.length_map] at this; exact this
    have lp : pvs.length = b.places.length := by have := dp.length; rw [List.length_map] at this; exact this
    have hglen := hB.glen
    have hplen := hB.plen
    refine ⟨_, (pss_cons (ps_set (i := 1) sc_law_company.nd rfl (Or.inl rfl) (pe_lst pa_nil))
  (pss_cons (ps_for PassesOwn.never rfl (pi_tup (pe_ix ix_tup (pv 0) pe_int (fun _ _ => rfl))) (pg_name (i := 2) sc_law_company.nd rfl (Or.inl rfl))
  (pss_one (ps_for PassesOwn.never rfl (pi_tup (pe_ix ix_tup (pv 0) pe_int (fun _ _ => rfl))) (pg_name (i := 3) sc_law_company.nd rfl (Or.inl rfl))
  (pss_one (ps_if (pt_cmpR op_eq (pe_ix ix_tup (pv 3) pe_int (fun _ _ => rfl)) (pe_ix ix_tup (pv 2) pe_int (fun _ _ => rfl)) (nomark _))
  (pss_one (ps_expr (pe_bm PySem.F.plainAttrs_list PySem.F.slot_list_append PySem.F.type_list_append mt_append (pv 1) (pa_cons (pe_tup (pa_cons (pe_ix ix_tup (pv 3) pe_int (fun _ _ => rfl)) (pa_cons (pe_ix ix_tup (pv 2) pe_int (fun _ _ => rfl)) pa_nil))) pa_nil))))
  pss_nil)))))
  (pss_one (ps_ret (pe_callTy call_tuple_of (by rfl) T.n_tuple (by decide +kernel) (pa_cons (pv 1) pa_nil)))))), ?_⟩
    refine ⟨sz0, fun o no => ?_⟩
    have n1 := Ext.new (T := T0) (o := .lst []) no
    refine ⟨_, rfl, ba, _, 2, _, rfl, rfl, n1.seqT sb, at2, pa, rfl, ⟨_, n1.seqT sp⟩, for_tup (K := K) (a := pa) (xs := pvs) (fun i σ H' => ∃ y2 y3 : Option V, σ = [some (.ref ba), some (.ref o), y2, y3] ∧ Ext T0 H H' ∧ ∃ acc, H' o = some (.lst acc) ∧ DtAll K H' acc ((b.places.take i).map (encPl b.games)))
      ⟨none, none, rfl, n1, [], upd_same, .nil⟩ (fun i σ H' _ ⟨_, _, _, x, _⟩ => x.seqT sp) ?_ ?_⟩
    · rintro i x σ H' hx ⟨y2, y3, rfl, xx, acc, ho, dacc⟩
      have hi : i < b.places.length := by
        have := (List.getElem?_eq_some_iff.mp hx).1
        omega
      obtain ⟨p, ep⟩ : ∃ p, b.places[i]? = some p := ⟨_, List.getElem?_eq_getElem hi⟩
      obtain ⟨dx, edx, hdx⟩ := dp.get' hx
      rw [List.getElem?_map, ep] at edx
      cases edx
      obtain ⟨xa, u1, u2, rfl, sx, du1, du2⟩ := Dt.two hdx
      have e1 := du1.str_inv
      have e2 := du2.int_inv
      subst e1
      subst e2
      obtain ⟨g, hg, hk⟩ := hB.pl p (List.mem_of_getElem? ep)
      have hgo : gameOf b.games p.1 = g := gameOf_mem hB.nd hg
      have lacc : acc.length ≤ 10 := by
        have := dacc.length
        rw [List.length_map, List.length_take] at this
        omega
      refine ⟨_, rfl, ba, _, 1, _, rfl, rfl, xx.seqT sb, at1, ga, rfl, ⟨_, xx.seqT sg⟩, for_tup (K := K) (a := ga) (xs := gv) (fun j σ H'' => ∃ y3 : Option V, σ = [some (.ref ba), some (.ref o), some (.ref xa), y3] ∧ Ext T0 H H'' ∧ ∃ acc2, H'' o = some (.lst acc2) ∧
          DtAll K H'' acc2 ((b.places.take i).map (encPl b.games) ++ ((b.games.take j).filter (fun x => decide (x.1 = p.1))).map fun x => .tuple [encG x.2, .int p.2]))
        ⟨y3, rfl, xx, acc, ho, by simpa using dacc⟩ (fun j σ H'' _ ⟨_, _, x, _⟩ => x.seqT sg) ?_ ?_⟩
      · rintro j u σ H'' hu ⟨y3, rfl, x2, acc2, ho2, dacc2⟩
        have hj : j < b.games.length := by
          have := (List.getElem?_eq_some_iff.mp hu).1
          omega
        obtain ⟨gg, egg⟩ : ∃ gg, b.games[j]? = some gg := ⟨_, List.getElem?_eq_getElem hj⟩
        obtain ⟨dy, edy, hdy⟩ := dg.get' hu
        rw [List.getElem?_map, egg] at edy
        cases edy
        obtain ⟨za, z1, z2, rfl, sz, dz1, dz2⟩ := Dt.two hdy
        have e3 := dz1.str_inv
        subst e3
        refine ⟨_, rfl, za, _, _, _, rfl, rfl, x2.seqT sz, at0, _, rfl, xa, _, _, _, rfl, rfl, x2.seqT sx, at0, rfl, _, rfl, ?_⟩
        by_cases hc : gg.1 = p.1
        · refine ifT (decide_eq_true (by rw [hc])) ?_
          refine ⟨_, rfl, .inl ⟨rfl, _, SqL.of ho2⟩, _, rfl, za, _, _, _, rfl, rfl, x2.seqT sz, at1, _, rfl, xa, _, _, _, rfl, rfl, x2.seqT sx, at1, sz2, fun t nt => ?_⟩
          have n3 := Ext.new (T := T0) (o := .tup [z2, .int (p.2 : Nat)]) nt
          have ho3 := n3.lst ho2
          have dn : Dt K _ (.ref t) (.tuple [encG gg.2, .int p.2]) := .newT nt (.cons (dz2.ext x2) (.cons (.int _) .nil))
          have lacc2 : acc2.length ≤ 20 := by
            have h1 := dacc2.length
            rw [List.length_append, List.length_map, List.length_map, List.length_take] at h1
            have h2 := List.length_filter_le (fun x : Str × Gm => decide (x.1 = p.1)) (b.games.take j)
            rw [List.length_take] at h2
            omega
          refine ⟨o, acc2, _, rfl, rfl, ho3, lt_line (by omega), _, rfl, (x2.trans n3).put no, acc2 ++ [.ref t], upd_same, ?_⟩
          have tx := TupX.lst (o := .lst (acc2 ++ [.ref t])) ho3
          rw [take_at egg, List.filter_append, List.filter_cons_of_pos (by rw [decide_eq_true_eq]; exact hc), List.filter_nil, List.map_append, ← List.append_assoc]
          exact ((dacc2.ext n3).tx tx).snoc (dn.tx tx)
        · refine ifF (decide_eq_false fun z => hc (V.str.inj z)) ?_
          refine ⟨_, rfl, x2, acc2, ho2, ?_⟩
          rw [take_at egg, List.filter_append, List.filter_cons_of_neg (by rw [decide_eq_true_eq]; exact hc), List.filter_nil, List.append_nil]
          exact dacc2
      · rintro σ H'' ⟨y3, rfl, x2, acc2, ho2, dacc2⟩
        rw [lg, List.take_length, filter_one hB.nd hg] at dacc2
        refine ⟨_, _, rfl, x2, acc2, ho2, ?_⟩
        rw [take_at ep, List.map_append]
        have : encPl b.games p = .tuple [encG g, .int p.2] := by
          unfold encPl
          rw [hgo]
        show DtAll K H'' acc2 (_ ++ [encPl b.games p])
        rw [this]
        exact dacc2
    · rintro σ H' ⟨y2, y3, rfl, xx, acc, ho, dacc⟩
      rw [lp, List.take_length] at dacc
      exact ⟨_, rfl, o, acc, rfl, .inl ⟨SqL.of ho, q.tup xx dacc⟩⟩
end
end Bk

/-! Plain mathematics: fractions with one denominator, rows of moves. -/
namespace Bk
open PySem TL
theorem mk_gpos {n d : Int} (h : 0 < d) : 0 < (Int.gcd n d : Int) := by
  have : 0 < Int.gcd n d := Int.gcd_pos_of_ne_zero_right n (by omega)
  omega
theorem mk_scale {k n d : Int} (hk : 0 < k) : mkR (k * n) (k * d) = mkR n d := by
  unfold mkR
  have e : (Int.gcd (k * n) (k * d) : Int) = k * (Int.gcd n d : Int) := by
    rw [Int.gcd_mul_left, Int.natCast_mul]
    congr 1
    omega
  rw [e, Int.mul_ediv_mul_of_pos _ _ hk, Int.mul_ediv_mul_of_pos _ _ hk]
theorem mk_mul {n d : Int} : (mkR n d).1 * (Int.gcd n d : Int) = n ∧ (mkR n d).2 * (Int.gcd n d : Int) = d :=
  ⟨Int.ediv_mul_cancel (Int.gcd_dvd_left n d), Int.ediv_mul_cancel (Int.gcd_dvd_right n d)⟩
theorem mk_den_pos {n d : Int} (h : 0 < d) : 0 < (mkR n d).2 := Int.ediv_pos_of_pos_of_dvd h (Int.le_of_lt (mk_gpos h)) (Int.gcd_dvd_right n d)
theorem mk_den_le {n d : Int} (h : 0 < d) : (mkR n d).2 ≤ d := Int.ediv_le_self _ (Int.le_of_lt h)
theorem mk_num_le {n d : Int} : (mkR n d).1.natAbs ≤ n.natAbs := by
  show (n / (Int.gcd n d : Int)).natAbs ≤ n.natAbs
  rw [Int.natAbs_ediv_of_dvd (Int.gcd_dvd_left n d)]
  exact Nat.div_le_self _ _
theorem mk_num_pos {n d : Int} (h : 0 < n) (hd : 0 < d) : 0 < (mkR n d).1 := Int.ediv_pos_of_pos_of_dvd h (Int.le_of_lt (mk_gpos hd)) (Int.gcd_dvd_left n d)
theorem mk_num_nonneg {n d : Int} (h : 0 ≤ n) : 0 ≤ (mkR n d).1 := Int.ediv_nonneg h (by omega)
theorem mk_ok {n d : Int} (hd : 0 < d) (hn : n.natAbs < 10 ^ 60) (hd2 : d.natAbs < 10 ^ 60) : ROk (mkR n d) := by
  have h1 := mk_den_pos (n := n) hd
  have h2 := mk_den_le (n := n) hd
  refine ⟨by omega, ?_, Nat.lt_of_le_of_lt mk_num_le hn, Nat.lt_of_le_of_lt ?_ hd2⟩
  · refine Int.gcd_ediv_gcd_ediv_gcd ?_
    have := mk_gpos (n := n) hd
    omega
  · omega
theorem mk_sm {n d : Int} (hd : 0 < d) (hn : n.natAbs ≤ 1000000) (hd2 : d ≤ 1000000) : Sm (mkR n d) := by
  have h1 := mk_den_pos (n := n) hd
  have h2 := mk_den_le (n := n) hd
  have h3 := mk_num_le (n := n) (d := d)
  exact ⟨by omega, h1, by omega⟩
theorem mk_zero {d : Int} (h : 0 < d) : mkR 0 d = (0, 1) := by
  unfold mkR
  have e : (Int.gcd 0 d : Int) = d := by
    rw [Int.zero_gcd]
    omega
  rw [e, Int.zero_ediv, Int.ediv_self (by omega)]
theorem mk_one {d : Int} (h : 0 < d) : mkR d d = (1, 1) := by
  unfold mkR
  have e : (Int.gcd d d : Int) = d := by
    rw [Int.gcd_self]
    omega
  rw [e, Int.ediv_self (by omega)]
/-- fractions with one denominator are added by their numerators -/
theorem radd_mk {a b W : Int} (hW : 0 < W) : radd (mkR a W) (mkR b W) = mkR (a + b) W := by
  obtain ⟨a1, a2⟩ := mk_mul (n := a) (d := W)
  obtain ⟨b1, b2⟩ := mk_mul (n := b) (d := W)
  have hg := mk_gpos (n := a) hW
  have hh := mk_gpos (n := b) hW
  generalize hA : mkR a W = A at *
  generalize hB : mkR b W = B at *
  generalize (Int.gcd a W : Int) = g at *
  generalize (Int.gcd b W : Int) = h at *
  unfold radd
  rw [← mk_scale (k := g * h) (Int.mul_pos hg hh)]
  have e1 : g * h * (A.1 * B.2 + B.1 * A.2) = W * (a + b) := by
    have : g * h * (A.1 * B.2 + B.1 * A.2) = (A.1 * g) * (B.2 * h) + (B.1 * h) * (A.2 * g) := by
      simp only [Int.mul_add, Int.mul_comm, Int.mul_left_comm]
    rw [this, a1, a2, b1, b2, Int.mul_add, Int.mul_comm a W, Int.mul_comm b W]
  have e2 : g * h * (A.2 * B.2) = W * W := by
    have : g * h * (A.2 * B.2) = (A.2 * g) * (B.2 * h) := by
      simp only [Int.mul_comm, Int.mul_left_comm]
    rw [this, a2, b2]
  rw [e1, e2, mk_scale hW]
theorem fold_mk {W : Int} (hW : 0 < W) : ∀ (ws : List Int) (a : Int), (ws.map fun w => mkR w W).foldl radd (mkR a W) = mkR (a + ws.sum) W
  | [], a => by simp
  | w :: r, a => by
    rw [List.map_cons, List.foldl_cons, radd_mk hW, fold_mk hW r, List.sum_cons, Int.add_assoc]
theorem smr_mk {W : Int} (hW : 0 < W) (hW2 : W ≤ 1000000) : ∀ (ws : List Int) (a : Int), 0 ≤ a → (∀ w ∈ ws, 0 ≤ w) → a + ws.sum ≤ 1000000 → SmR (mkR a W) (ws.map fun w => mkR w W)
  | [], _, _, _, _ => trivial
  | w :: r, a, ha, hw, hs => by
    rw [List.sum_cons] at hs
    have h0 := hw w (List.mem_cons_self ..)
    have hr : 0 ≤ r.sum := by
      have : ∀ l : List Int, (∀ w ∈ l, 0 ≤ w) → 0 ≤ l.sum := fun l => by
        induction l with
        | nil => intro _; simp
        | cons x l ih =>
          intro h
          have h1 := h x (List.mem_cons_self ..)
          have h2 := ih fun y hy => h y (List.mem_cons_of_mem _ hy)
          rw [List.sum_cons]
          omega
      exact this r fun y hy => hw y (List.mem_cons_of_mem _ hy)
    refine ⟨mk_sm hW (by omega) hW2, mk_sm hW (by omega) hW2, ?_⟩
    rw [radd_mk hW]
    exact smr_mk hW hW2 r _ (by omega) (fun y hy => hw y (List.mem_cons_of_mem _ hy)) (by omega)
/-- a row of weights -/
def rowW (l : List (Nat × Int)) (W : Int) : Row := l.map fun p => (p.1, mkR p.2 W)
theorem rowW_ok {n : Nat} {l : List (Nat × Int)} {W : Int} (hl : l.length ≤ 20) (hasc : l.Pairwise fun a b => a.1 < b.1) (hlt : ∀ p ∈ l, p.1 < n) (hp : ∀ p ∈ l, 0 < p.2) (hs : (l.map (·.2)).sum = W) (hW : 0 < W) (hW2 : W ≤ 1000000) : RowOk n (rowW l W) := by
  have e : (rowW l W).map (·.2) = (l.map (·.2)).map fun w => mkR w W := by
    unfold rowW
    rw [List.map_map, List.map_map]
    rfl
  have hle : ∀ p ∈ l, p.2 ≤ W := by
    have : ∀ m : List (Nat × Int), (∀ p ∈ m, 0 < p.2) → (∀ p ∈ m, p.2 ≤ (m.map (·.2)).sum) ∧ 0 ≤ (m.map (·.2)).sum := fun m => by
      induction m with
      | nil => intro _; exact ⟨(fun p h => by cases h), by simp⟩
      | cons x m ih =>
        intro h
        obtain ⟨h1, h2⟩ := ih fun p hp => h p (List.mem_cons_of_mem _ hp)
        have h3 := h x (List.mem_cons_self ..)
        rw [List.map_cons, List.sum_cons]
        refine ⟨fun p hp => ?_, by omega⟩
        rcases List.mem_cons.mp hp with e | hp
        · rw [e]; omega
        · have := h1 p hp
          omega
    rw [← hs]
    exact (this l hp).1
  refine ⟨by unfold rowW; rw [List.length_map]; exact hl, ?_, ?_, ?_, ?_, ?_, ?_⟩
  · unfold rowW
    exact List.Pairwise.map _ (fun a b h => h) hasc
  · intro t ht
    obtain ⟨p, hp', rfl⟩ := List.mem_map.mp ht
    exact hlt p hp'
  · intro t ht
    obtain ⟨p, hp', rfl⟩ := List.mem_map.mp ht
    have h1 := hp p hp'
    have h2 := hle p hp'
    refine mk_ok hW (Nat.lt_of_le_of_lt (show p.2.natAbs ≤ 1000000 by omega) (by decide)) (Nat.lt_of_le_of_lt (show W.natAbs ≤ 1000000 by omega) (by decide))
  · intro t ht
    obtain ⟨p, hp', rfl⟩ := List.mem_map.mp ht
    exact mk_num_pos (hp p hp') hW
  · rw [e, ← mk_zero hW, fold_mk hW, Int.zero_add, hs, mk_one hW]
  · rw [e, ← mk_zero hW]
    refine smr_mk hW hW2 _ 0 (Int.le_refl _) (fun w hw => ?_) (by rw [hs]; omega)
    obtain ⟨p, hp', rfl⟩ := List.mem_map.mp hw
    exact Int.le_of_lt (hp p hp')
/-- names: four different ones do not all stand among three -/
theorem pigeon {α : Type} [DecidableEq α] : ∀ (l m : List α), l.Nodup → (∀ x ∈ l, x ∈ m) → l.length ≤ m.length
  | [], _, _, _ => Nat.zero_le _
  | x :: l, m, hn, h => by
    have hn' := List.nodup_cons.mp hn
    have hx := h x (List.mem_cons_self ..)
    have ih := pigeon l (m.erase x) hn'.2 fun y hy => by
      have hne : y ≠ x := fun e => hn'.1 (by rw [← e]; exact hy)
      exact (List.mem_erase_of_ne hne).mpr (h y (List.mem_cons_of_mem _ hy))
    rw [List.length_erase_of_mem hx] at ih
    have := List.length_pos_of_mem hx
    rw [List.length_cons]
    omega
/-! ### weights by place -/
def selW (ws : List Int) (j : Nat) : List (Nat × Int) := ((List.range j).filter fun t => decide (0 < ws.getD t 0)).map fun t => (t, ws.getD t 0)
theorem selW_succ_pos {ws : List Int} {j : Nat} (h : 0 < ws.getD j 0) : selW ws (j + 1) = selW ws j ++ [(j, ws.getD j 0)] := by
  unfold selW
  rw [List.range_succ, List.filter_append, List.map_append, List.filter_cons_of_pos (by rw [decide_eq_true_eq]; exact h)]
  rfl
theorem selW_succ_neg {ws : List Int} {j : Nat} (h : ¬ 0 < ws.getD j 0) : selW ws (j + 1) = selW ws j := by
  unfold selW
  rw [List.range_succ, List.filter_append, List.map_append, List.filter_cons_of_neg (by rw [decide_eq_true_eq]; exact h)]
  simp
theorem take_sum : ∀ {l : List Int} {i : Nat} {z : Int}, l[i]? = some z → (l.take (i + 1)).sum = (l.take i).sum + z
  | [], i, z, h => by simp at h
  | a :: r, 0, z, h => by
    have e : a = z := Option.some.inj h
    subst e
    simp
  | a :: r, i + 1, z, h => by
    have ih := take_sum (l := r) (i := i) (z := z) h
    rw [List.take_succ_cons, List.sum_cons, ih, List.take_succ_cons, List.sum_cons]
    omega
theorem selW_sum {ws : List Int} (h0 : ∀ w ∈ ws, 0 ≤ w) : ∀ j : Nat, j ≤ ws.length → ((selW ws j).map (·.2)).sum = (ws.take j).sum
  | 0, _ => by simp [selW]
  | j + 1, hj => by
    have ih := selW_sum h0 j (by omega)
    have e : ws[j]? = some (ws.getD j 0) := by
      rw [List.getD_eq_getElem?_getD, List.getElem?_eq_getElem (by omega)]
      rfl
    rw [take_sum e]
    by_cases h : 0 < ws.getD j 0
    · rw [selW_succ_pos h, List.map_append, List.sum_append, ih]
      simp
    · have hz : ws.getD j 0 = 0 := by
        have := h0 _ (List.mem_of_getElem? e)
        omega
      rw [selW_succ_neg h, ih, hz, Int.add_zero]
theorem selW_ok {ws : List Int} (hl : ws.length ≤ 20) (h0 : ∀ w ∈ ws, 0 ≤ w) (hs : 0 < ws.sum) (hs2 : ws.sum ≤ 1000000) : RowOk ws.length (rowW (selW ws ws.length) ws.sum) := by
  refine rowW_ok ?_ ?_ ?_ ?_ ?_ hs hs2
  · unfold selW
    rw [List.length_map]
    have := List.length_filter_le (fun t => decide (0 < ws.getD t 0)) (List.range ws.length)
    rw [List.length_range] at this
    omega
  · unfold selW
    exact List.Pairwise.map _ (fun a b h => h) (List.pairwise_lt_range.filter _)
  · intro p hp
    obtain ⟨t, ht, rfl⟩ := List.mem_map.mp hp
    exact List.mem_range.mp (List.mem_filter.mp ht).1
  · intro p hp
    obtain ⟨t, ht, rfl⟩ := List.mem_map.mp hp
    exact of_decide_eq_true (List.mem_filter.mp ht).2
  · rw [selW_sum h0 _ (Nat.le_refl _), List.take_length]
theorem le_sum : ∀ {l : List Int}, (∀ w ∈ l, 0 ≤ w) → 0 ≤ l.sum ∧ ∀ w ∈ l, w ≤ l.sum
  | [], _ => ⟨by simp, fun w h => by cases h⟩
  | x :: r, h => by
    obtain ⟨h1, h2⟩ := le_sum (l := r) fun y hy => h y (List.mem_cons_of_mem _ hy)
    have h3 := h x (List.mem_cons_self ..)
    rw [List.sum_cons]
    refine ⟨by omega, fun w hw => ?_⟩
    rcases List.mem_cons.mp hw with e | hw
    · rw [e]; omega
    · have := h2 w hw
      omega
theorem sum_bound {m : Int} : ∀ {l : List Int}, (∀ w ∈ l, w ≤ m) → l.sum ≤ l.length * m
  | [], _ => by simp
  | x :: r, h => by
    have h1 := sum_bound (l := r) fun y hy => h y (List.mem_cons_of_mem _ hy)
    have h3 := h x (List.mem_cons_self ..)
    rw [List.sum_cons, List.length_cons, Int.natCast_add, Int.add_mul]
    simp only [Int.natCast_one, Int.one_mul]
    omega
theorem set_sum : ∀ {l : List Int} {j : Nat} {z y : Int}, l[j]? = some z → (l.set j y).sum = l.sum - z + y
  | [], j, z, y, h => by simp at h
  | a :: r, 0, z, y, h => by
    have e : a = z := Option.some.inj h
    subst e
    rw [List.set_cons_zero, List.sum_cons, List.sum_cons]
    omega
  | a :: r, j + 1, z, y, h => by
    have ih := set_sum (l := r) (j := j) (z := z) (y := y) h
    rw [List.set_cons_succ, List.sum_cons, List.sum_cons, ih]
    omega
end Bk

namespace Bk
open PySem PySem.Spec PyProof.Rows L2 GxR TL
section
variable {P : Program} {w : World} {K : PySem.W.Frag} {mg : Str → Option Value} {base : Heap} {T0 c0 : Addr} {tD tL : Tok}
/-! ### _law_cell -/
abbrev s_law_cell : Stmt := top 32
theorem sc_law_cell : FnScope ["_law_script", "_law_k"] ["_law_script", "_law_k"] (defScope s_law_cell) := ⟨rfl, rfl, rfl, by decide +kernel, rfl, by decide +kernel, by decide +kernel⟩
def spCell (K : PySem.W.Frag) : Sp := fun us H Q _ => ∃ (a : Addr) (ns : List Int) (k : Nat), us = [.ref a, .int k] ∧ SqL K H a (ns.map V.int) ∧ ∀ i : Int, Q (.int i) H
theorem ok_law_cell (D : At K mg "_law_cell" s_law_cell) (T : Nm mg tD tL) : Ok P w K mg base 1 "_law_cell" ["_law_script", "_law_k"] (spCell K) := by
  refine D.ok sc_law_cell (fun _ _ _ _ _ _ us hl => match us, hl with | [_, _], _ => rfl) (fun vs H Q E h => ?_) (fun f cdv A outer s H us Q E hr h => ?_)
  · obtain ⟨_, _, _, rfl, _⟩ := h
    rfl
  · obtain ⟨a, ns, k, rfl, hS, q⟩ := h
    refine ⟨_, (pss_cons (ps_if (pt_cmpR op_lt (pv 1) (pe_callB call_len_seq (by rfl) T.n_len PySem.boot_len (pa_cons (pv 0) pa_nil)) (nomark _))
  (pss_one (ps_ret (pe_ix ix_list (pv 0) (pv 1) (fun _ _ => rfl))))
  pss_nil)
  (pss_one (ps_ret (pe_op op_add (pe_op op_mul pe_int (pv 1)) pe_int)))), ?_⟩
    refine ⟨_, rfl, _, rfl, a, _, rfl, .inl hS, _, _, rfl, rfl, _, rfl, ite2 (fun e => ?_) (fun e => ?_)⟩
    · have e := of_decide_eq_true e
      rw [List.length_map] at e
      have hk : k < ns.length := by omega
      have e1 : (ns.map V.int)[k]? = some (.int ns[k]) := by rw [List.getElem?_map, List.getElem?_eq_getElem hk]; rfl
      exact ⟨_, rfl, _, rfl, a, _, _, _, rfl, rfl, hS, atI_nat e1, q _⟩
    · exact ⟨_, rfl, _, _, rfl, rfl, .inl ⟨by decide, by decide⟩, _, _, rfl, rfl, q _⟩
/-! ### _law_draws -/
abbrev s_law_draws : Stmt := top 33
theorem sc_law_draws : FnScope ["_law_cell_here", "_law_count", "_law_rest", "_law_digits", "_law_seed", "_law_draws_here", "_law_k", "_law_mixed"] ["_law_cell_here", "_law_count"] (defScope s_law_draws) := ⟨rfl, rfl, rfl, by decide +kernel, rfl, by decide +kernel, by decide +kernel⟩
/-- draws: n numbers below 5040 -/
structure Drw (n : Nat) (ds : List Int) : Prop where
  len : ds.length = n
  ge : ∀ d ∈ ds, 0 ≤ d
  lt : ∀ d ∈ ds, d < 5040
def spDraws (T0 : Addr) : Sp := fun us H Q _ => ∃ (c : Int) (n : Nat), us = [.int c, .int n] ∧ n ≤ 1000 ∧ ∀ p ds H', Ext T0 H H' → H p = none → H' p = some (.lst (ds.map V.int)) → Drw n ds → Q (.ref p) H'
theorem ok_law_draws (D : At K mg "_law_draws" s_law_draws) (T : Nm mg tD tL) : Ok P w K mg base 1 "_law_draws" ["_law_cell_here", "_law_count"] (spDraws T0) := by
  refine D.ok sc_law_draws (fun _ _ _ _ _ _ us hl => match us, hl with | [_, _], _ => rfl) (fun vs H Q E h => ?_) (fun f cdv A outer s H us Q E hr h => ?_)
  · obtain ⟨_, _, rfl, _⟩ := h
    rfl
  · obtain ⟨c, n, rfl, hn, q⟩ := h
    refine ⟨_, (pss_cons (ps_set (i := 2) sc_law_draws.nd rfl (Or.inl rfl) (pe_callB call_abs (by rfl) T.n_abs (by decide +kernel) (pa_cons (pe_callTy call_int1 (by rfl) T.n_int (by decide +kernel) (pa_cons (pv 0) pa_nil)) pa_nil)))
  (pss_cons (ps_set (i := 3) sc_law_draws.nd rfl (Or.inl rfl) (pe_cmpR op_ge (pv 2) (pe_op op_pow pe_int pe_int) (nomark _)))
  (pss_cons (ps_set (i := 4) sc_law_draws.nd rfl (Or.inl rfl) (pv 2))
  (pss_cons (ps_set (i := 5) sc_law_draws.nd rfl (Or.inl rfl) (pe_lst pa_nil))
  (pss_cons (ps_for PassesOwn.never rfl (pi_range1 (by rfl) T.n_range (pa_cons (pv 1) pa_nil)) (pg_name (i := 6) sc_law_draws.nd rfl (Or.inl rfl))
  (pss_one (ps_if (PW.pt (pw_and (pt_val (pv 3)) (pw_and1 (pt_cmpR op_gt (pv 2) pe_int (nomark _)))))
  (pss_cons (ps_expr (pe_bm PySem.F.plainAttrs_list PySem.F.slot_list_append PySem.F.type_list_append mt_append (pv 5) (pa_cons (pe_op op_mod (pe_callTy call_int1 (by rfl) T.n_int (by decide +kernel) (pa_cons (pv 2) pa_nil)) pe_int) pa_nil)))
  (pss_one (ps_set (i := 2) sc_law_draws.nd rfl (Or.inl rfl) (pe_op op_fdiv (pv 2) pe_int))))
  (pss_cons (ps_set (i := 7) sc_law_draws.nd rfl (Or.inl rfl) (pe_op op_mod (pe_callTy call_int1 (by rfl) T.n_int (by decide +kernel) (pa_cons (pe_op op_add (pe_op op_add (pe_op op_mul (pv 4) pe_int) (pe_op op_mul (pe_op op_add (pv 6) pe_int) pe_int)) pe_int) pa_nil)) pe_int))
  (pss_cons (ps_set (i := 7) sc_law_draws.nd rfl (Or.inl rfl) (pe_op op_mod (pe_callTy call_int1 (by rfl) T.n_int (by decide +kernel) (pa_cons (pe_op op_add (pe_op op_mul (pv 7) (pv 7)) (pe_op op_mul pe_int (pe_op op_add (pv 6) pe_int))) pa_nil)) pe_int))
  (pss_one (ps_expr (pe_bm PySem.F.plainAttrs_list PySem.F.slot_list_append PySem.F.type_list_append mt_append (pv 5) (pa_cons (pe_op op_mod (pe_callTy call_int1 (by rfl) T.n_int (by decide +kernel) (pa_cons (pe_op op_fdiv (pv 7) pe_int) pa_nil)) pe_int) pa_nil)))))))))
  (pss_one (ps_ret (pv 5)))))))), ?_⟩
    refine ⟨_, rfl, .inl ⟨_, rfl, _, rfl, ?_⟩⟩
    refine ⟨_, rfl, _, _, rfl, rfl, ⟨by decide, by decide, by decide⟩, _, _, rfl, rfl, ?_⟩
    refine ⟨_, rfl, sz0, fun o no => ?_⟩
    have n1 := Ext.new (T := T0) (o := .lst []) no
    have more : ∀ (ds : List Int) (d : Int) (i : Nat), Drw i ds → 0 ≤ d → d < 5040 → Drw (i + 1) (ds ++ [d]) := fun ds d i h h0 h1 => by
      refine ⟨by rw [List.length_append, List.length_singleton, h.len], fun x hx => ?_, fun x hx => ?_⟩
      · rcases List.mem_append.mp hx with hx | hx
        · exact h.ge x hx
        · rw [List.mem_singleton.mp hx]; exact h0
      · rcases List.mem_append.mp hx with hx | hx
        · exact h.lt x hx
        · rw [List.mem_singleton.mp hx]; exact h1
    refine ⟨_, rfl, _, rfl, by omega, by omega, for_range (lo := 0) (n := ((n : Nat) : Int).toNat) (fun i σ H' => ∃ (r dg sd : V) (b : Bool) (ri si : Int) (y6 y7 : Option V) (ds : List Int), σ = [some (.int c), some (.int n), some (.int ri), some (.bl b), some (.int si), some (.ref o), y6, y7] ∧ Ext T0 H H' ∧ H' o = some (.lst (ds.map V.int)) ∧ Drw i ds)
      ⟨.non, .non, .non, _, _, _, none, none, [], rfl, n1, upd_same, ⟨rfl, (fun d h => by cases h), (fun d h => by cases h)⟩⟩ ?_ ?_⟩
    · rintro i σ H' hi ⟨_, _, _, b, ri, si, y6, y7, ds, rfl, x1, ho, hd⟩
      have hlen : ds.length < 16000000 := by
        have := hd.len
        omega
      have big : (ds.map V.int).length < sizeLine := by rw [List.length_map]; exact lt_line (by omega)
      have mixed : ∀ (y7 : Option V), (tSeq (tAsg (tOp (rI (fun _ j => 0 < j) fun i j => .int (i % j)) (tCB (fun xs H Q => (∃ i, xs = [.int i] ∧ Q (.int i) H) ∨ ∃ k, xs = [.bl k] ∧ Q (.int (if k then 1 else 0)) H) (tCons (tOp (rI0 fun i j => .int (i + j)) (tOp (rI0 fun i j => .int (i + j)) (tOp (rI CMul fun i j => .int (i * j)) (tVar 4) (tC (.int 48271))) (tOp (rI CMul fun i j => .int (i * j)) (tOp (rI0 fun i j => .int (i + j)) (tVar 6) (tC (.int 1))) (tC (.int 69621)))) (tC (.int 11))) tNil)) (tC (.int 2147483647))) (gName 7))
          (tSeq (tAsg (tOp (rI (fun _ j => 0 < j) fun i j => .int (i % j)) (tCB (fun xs H Q => (∃ i, xs = [.int i] ∧ Q (.int i) H) ∨ ∃ k, xs = [.bl k] ∧ Q (.int (if k then 1 else 0)) H) (tCons (tOp (rI0 fun i j => .int (i + j)) (tOp (rI CMul fun i j => .int (i * j)) (tVar 7) (tVar 7)) (tOp (rI CMul fun i j => .int (i * j)) (tC (.int 40692)) (tOp (rI0 fun i j => .int (i + j)) (tVar 6) (tC (.int 3))))) tNil)) (tC (.int 2147483399))) (gName 7))
            (tDrop (tBM K "list" rAppend (tVar 5) (tCons (tOp (rI (fun _ j => 0 < j) fun i j => .int (i % j)) (tCB (fun xs H Q => (∃ i, xs = [.int i] ∧ Q (.int i) H) ∨ ∃ k, xs = [.bl k] ∧ Q (.int (if k then 1 else 0)) H) (tCons (tOp (rI CDiv fun i j => .int (i / j)) (tVar 7) (tC (.int 64))) tNil)) (tC (.int 5040))) tNil)))))
          { nx := fun σ H' => ∃ (r dg sd : V) (b : Bool) (ri si : Int) (y6 y7 : Option V) (ds : List Int), σ = [some (.int c), some (.int n), some (.int ri), some (.bl b), some (.int si), some (.ref o), y6, y7] ∧ Ext T0 H H' ∧ H' o = some (.lst (ds.map V.int)) ∧ Drw (i + 1) ds,
            rt := Q, bk := tRet (tVar 5) { nx := fun _ H' => Q .non H', rt := Q }, ct := fun σ H' => ∃ (r dg sd : V) (b : Bool) (ri si : Int) (y6 y7 : Option V) (ds : List Int), σ = [some (.int c), some (.int n), some (.int ri), some (.bl b), some (.int si), some (.ref o), y6, y7] ∧ Ext T0 H H' ∧ H' o = some (.lst (ds.map V.int)) ∧ Drw (i + 1) ds }
          [some (.int c), some (.int n), some (.int ri), some (.bl b), some (.int si), some (.ref o), some (.int (0 + (i : Nat))), y7] H' := by
        intro y7
        refine ⟨_, rfl, _, _, rfl, rfl, .inr ⟨by decide, by decide⟩, _, rfl, _, _, rfl, rfl, _, _, rfl, rfl, .inr ⟨by decide, by decide⟩, _, _, rfl, rfl, _, _, rfl, rfl, .inl ⟨_, rfl, _, _, rfl, rfl, (show (0 : Int) < 2147483647 by decide), ?_⟩⟩
        generalize hm : (si * 48271 + ((0 + (i : Int)) + 1) * 69621 + 11) % 2147483647 = m
        have m0 : 0 ≤ m := by rw [← hm]; exact Int.emod_nonneg _ (by decide)
        have m1 : m < 2147483647 := by rw [← hm]; exact Int.emod_lt_of_pos _ (by decide)
        refine ⟨_, rfl, _, rfl, m, m, ?_, ?_, .inl ⟨by omega, by omega⟩, ?_⟩
        · rw [← hm]
        · rw [← hm]
        refine ⟨_, rfl, _, _, rfl, rfl, _, _, rfl, rfl, .inl ⟨by decide, by decide⟩, _, _, rfl, rfl, .inl ⟨_, rfl, _, _, rfl, rfl, (show (0 : Int) < 2147483399 by decide), ?_⟩⟩
        refine ⟨_, rfl, .inl ⟨rfl, _, SqL.of ho⟩, _, rfl, _, _, rfl, rfl, ⟨by decide, by decide⟩, .inl ⟨_, rfl, _, _, rfl, rfl, (show (0 : Int) < 5040 by decide), o, _, _, rfl, rfl, ho, big, ?_⟩⟩
        refine ⟨.non, .non, .non, _, _, _, _, _, ds ++ [((m * m + 40692 * (0 + (i : Int) + 3)) % 2147483399 / 64) % 5040], rfl, x1.put no, ?_, more _ _ _ hd (Int.emod_nonneg _ (by decide)) (Int.emod_lt_of_pos _ (by decide))⟩
        rw [upd_same, List.map_append]
        rfl
      refine ⟨_, rfl, b, rfl, ite2 (fun eb => ?_) (fun _ => ?_)⟩
      · refine ⟨_, rfl, _, _, rfl, rfl, _, rfl, ite2 (fun _ => ?_) (fun _ => mixed _)⟩
        refine ⟨_, rfl, .inl ⟨rfl, _, SqL.of ho⟩, _, rfl, .inl ⟨_, rfl, _, _, rfl, rfl, (show (0 : Int) < 5040 by decide), o, _, _, rfl, rfl, ho, big, ?_⟩⟩
        refine ⟨_, rfl, _, _, rfl, rfl, ⟨by decide, by decide⟩, ?_⟩
        refine ⟨.non, .non, .non, _, _, _, _, _, ds ++ [ri % 5040], rfl, x1.put no, ?_, more _ _ _ hd (Int.emod_nonneg _ (by decide)) (Int.emod_lt_of_pos _ (by decide))⟩
        rw [upd_same, List.map_append]
        rfl
      · exact iteF (mixed _)
    · rintro σ H' ⟨_, _, _, b, ri, si, y6, y7, ds, rfl, x1, ho, hd⟩
      exact ⟨_, rfl, q o ds H' x1 no ho hd⟩
/-! ### _law_gcd, _law_low -/
abbrev s_law_gcd : Stmt := top 34
theorem sc_law_gcd : FnScope ["_law_a", "_law_b", "_law_rest"] ["_law_a", "_law_b"] (defScope s_law_gcd) := ⟨rfl, rfl, rfl, by decide +kernel, rfl, by decide +kernel, by decide +kernel⟩
theorem ok_law_gcd (D : At K mg "_law_gcd" s_law_gcd) (T : Nm mg tD tL) : Ok P w K mg base 1 "_law_gcd" ["_law_a", "_law_b"] spGcd := by
  refine D.ok sc_law_gcd (fun _ _ _ _ _ _ us hl => match us, hl with | [_, _], _ => rfl) (fun vs H Q E h => ?_) (fun f cdv A outer s H us Q E hr h => ?_)
  · obtain ⟨_, _, rfl, _⟩ := h
    rfl
  · obtain ⟨a, b, rfl, q⟩ := h
    refine ⟨_, (pss_cons (ps_set (i := 0) sc_law_gcd.nd rfl (Or.inl rfl) (pe_callB call_abs (by rfl) T.n_abs (by decide +kernel) (pa_cons (pv 0) pa_nil)))
  (pss_cons (ps_set (i := 1) sc_law_gcd.nd rfl (Or.inl rfl) (pe_callB call_abs (by rfl) T.n_abs (by decide +kernel) (pa_cons (pv 1) pa_nil)))
  (pss_cons (ps_while PassesOwn.never (pt_cmpR op_gt (pv 1) pe_int (nomark _))
  (pss_cons (ps_set (i := 2) sc_law_gcd.nd rfl (Or.inl rfl) (pe_op op_mod (pe_callTy call_int1 (by rfl) T.n_int (by decide +kernel) (pa_cons (pv 0) pa_nil)) (pv 1)))
  (pss_cons (ps_set (i := 0) sc_law_gcd.nd rfl (Or.inl rfl) (pv 1))
  (pss_one (ps_set (i := 1) sc_law_gcd.nd rfl (Or.inl rfl) (pv 2))))))
  (pss_one (ps_ret (pv 0)))))), ?_⟩
    have abs_eq : ∀ x : Int, (if x < 0 then -x else x) = (x.natAbs : Int) := fun x => by split <;> omega
    refine ⟨_, rfl, _, rfl, ?_⟩
    refine ⟨_, rfl, _, rfl, ?_⟩
    refine while_by (fun σ H' => H' = H ∧ ∃ (x y : Nat) (z : Option V), σ = [some (.int x), some (.int y), z] ∧ Nat.gcd x y = Nat.gcd a.natAbs b.natAbs) (fun σ _ => match σ with | [_, some (.int y), _] => y.toNat | _ => 0) ⟨rfl, a.natAbs, b.natAbs, none, ?_, rfl⟩ ?_ ?_
    · show [some (V.int (if a < 0 then -a else a)), some (V.int (if b < 0 then -b else b)), none] = _
      rw [abs_eq, abs_eq]
    · rintro σ H' ⟨rfl, x, y, z, rfl, e⟩
      refine ⟨_, rfl, _, _, rfl, rfl, _, rfl, ite2 (fun h => ?_) (fun h => ?_)⟩
      · have hy := of_decide_eq_true h
        have hy' : 0 < y := by omega
        refine ⟨_, rfl, .inl ⟨_, rfl, _, rfl, _, _, rfl, rfl, by omega, ?_⟩⟩
        refine ⟨_, rfl, _, rfl, ⟨rfl, y, x % y, some (.int ((x % y : Nat) : Int)), ?_, ?_⟩, ?_⟩
        · show [some (V.int (y : Int)), some (V.int ((x : Int) % (y : Int))), some (V.int ((x : Int) % (y : Int)))] = [some (V.int (y : Int)), some (V.int ((x % y : Nat) : Int)), some (V.int ((x % y : Nat) : Int))]
          rw [Int.natCast_emod]
        · rw [← e, Nat.gcd_comm x y, Nat.gcd_rec y x, Nat.gcd_comm]
        · show ((x : Int) % (y : Int)).toNat < ((y : Int)).toNat
          rw [← Int.natCast_emod, Int.toNat_natCast, Int.toNat_natCast]
          exact Nat.mod_lt _ hy'
      · have hy : ¬ (0 : Int) < y := fun z => h (decide_eq_true z)
        have hy0 : y = 0 := by omega
        subst hy0
        rw [Nat.gcd_zero_right] at e
        refine ⟨_, rfl, ?_⟩
        have e2 : ((x : Nat) : Int) = (Int.gcd a b : Int) := by rw [e]; rfl
        rw [e2]
        exact q
    · rintro σ H' Q1 Q2 hq ⟨v, h1, i, j, e1, e2, k, e3, h4⟩
      exact ⟨v, h1, i, j, e1, e2, k, e3, hq _ _ h4⟩
abbrev s_law_low : Stmt := top 35
theorem sc_law_low : FnScope ["_law_n", "_law_d", "_law_divisor"] ["_law_n", "_law_d"] (defScope s_law_low) := ⟨rfl, rfl, rfl, by decide +kernel, rfl, by decide +kernel, by decide +kernel⟩
def spLow (T0 : Addr) (K : PySem.W.Frag) : Sp := fun us H Q _ => ∃ n d : Int, us = [.int n, .int d] ∧ 0 < d ∧ d < 2 ^ 300 ∧ Gives T0 K H Q (encR (mkR n d))
theorem ok_law_low (D : At K mg "_law_low" s_law_low) (G_law_gcd : Ok P w K mg base 1 "_law_gcd" ["_law_a", "_law_b"] spGcd) : Ok P w K mg base 2 "_law_low" ["_law_n", "_law_d"] (spLow T0 K) := by
  refine D.ok sc_law_low (fun _ _ _ _ _ _ us hl => match us, hl with | [_, _], _ => rfl) (fun vs H Q E h => ?_) (fun f cdv A outer s H us Q E hr h => ?_)
  · obtain ⟨_, _, rfl, _⟩ := h
    rfl
  · obtain ⟨n, d, rfl, hd, hd2, q⟩ := h
    refine ⟨_, (pss_cons (ps_set (i := 2) sc_law_low.nd rfl (Or.inl rfl) (pe_own G_law_gcd (hr.mono (by decide)) (by rfl) (pa_cons (pv 0) (pa_cons (pv 1) pa_nil))))
  (pss_cons (ps_if (pt_cmpR op_lt (pv 1) pe_int (nomark _))
  (pss_one (ps_set (i := 2) sc_law_low.nd rfl (Or.inl rfl) (pe_op op_sub pe_int (pv 2))))
  pss_nil)
  (pss_one (ps_ret (pe_tup (pa_cons (pe_op op_fdivW (pv 0) (pv 2)) (pa_cons (pe_op op_fdivW (pv 1) (pv 2)) pa_nil))))))), ?_⟩
    have g1 := gcd_pos (n := n) hd
    have g2 := gcd_le (n := n) hd
    have cd : ∀ i, CDivW i (Int.gcd n d : Int) := fun i => wide_div (b := 300) g1 (by omega) (by decide) (by decide)
    refine ⟨_, rfl, _, rfl, n, d, rfl, ?_⟩
    refine ⟨_, rfl, _, _, rfl, rfl, _, rfl, ite2 (fun e => absurd (of_decide_eq_true e) (by omega)) (fun e => ?_)⟩
    exact ⟨_, rfl, _, rfl, _, _, rfl, rfl, cd _, _, rfl, _, rfl, _, _, rfl, rfl, cd _, sz2, q.tup (Ext.refl _ _) (dp_rt _ _)⟩
/-! ### _law_fraction, _law_discount -/
abbrev s_law_fraction : Stmt := top 37
theorem sc_law_fraction : FnScope ["_law_draw"] ["_law_draw"] (defScope s_law_fraction) := ⟨rfl, rfl, rfl, by decide +kernel, rfl, by decide +kernel, by decide +kernel⟩
def spFrac (T0 : Addr) (K : PySem.W.Frag) : Sp := fun us H Q _ => ∃ x : Int, us = [.int x] ∧ ∀ n d : Int, -6 ≤ n → n ≤ 6 → 1 ≤ d → d ≤ 4 → Gives T0 K H Q (encR (mkR n d))
theorem ok_law_fraction (D : At K mg "_law_fraction" s_law_fraction) (T : Nm mg tD tL) (G_law_low : Ok P w K mg base 2 "_law_low" ["_law_n", "_law_d"] (spLow T0 K)) : Ok P w K mg base 3 "_law_fraction" ["_law_draw"] (spFrac T0 K) := by
  refine D.ok sc_law_fraction (fun _ _ _ _ _ _ us hl => match us, hl with | [_], _ => rfl) (fun vs H Q E h => ?_) (fun f cdv A outer s H us Q E hr h => ?_)
  · obtain ⟨_, rfl, _⟩ := h
    rfl
  · obtain ⟨x, rfl, q⟩ := h
    refine ⟨_, (pss_one (ps_ret (pe_own G_law_low (hr.mono (by decide)) (by rfl) (pa_cons (pe_op op_sub (pe_op op_mod (pe_callTy call_int1 (by rfl) T.n_int (by decide +kernel) (pa_cons (pv 0) pa_nil)) pe_int) pe_int) (pa_cons (pe_op op_add pe_int (pe_op op_mod (pe_op op_fdiv (pe_callTy call_int1 (by rfl) T.n_int (by decide +kernel) (pa_cons (pv 0) pa_nil)) pe_int) pe_int)) pa_nil))))), ?_⟩
    have h1 := Int.emod_nonneg x (show (13 : Int) ≠ 0 by decide)
    have h2 := Int.emod_lt_of_pos x (show (0 : Int) < 13 by decide)
    have h3 := Int.emod_nonneg (x / 13) (show (4 : Int) ≠ 0 by decide)
    have h4 := Int.emod_lt_of_pos (x / 13) (show (0 : Int) < 4 by decide)
    refine ⟨_, rfl, .inl ⟨_, rfl, _, _, rfl, rfl, (show (0 : Int) < 13 by decide), _, _, rfl, rfl, ?_⟩⟩
    refine ⟨_, rfl, .inl ⟨_, rfl, _, _, rfl, rfl, ⟨by decide, by decide⟩, _, _, rfl, rfl, (show (0 : Int) < 4 by decide), _, _, rfl, rfl, ?_⟩⟩
    exact ⟨_, _, rfl, by omega, by omega, q _ _ (by omega) (by omega) (by omega) (by omega)⟩
abbrev s_law_discount : Stmt := top 38
theorem sc_law_discount : FnScope ["_law_draw", "_law_whole"] ["_law_draw"] (defScope s_law_discount) := ⟨rfl, rfl, rfl, by decide +kernel, rfl, by decide +kernel, by decide +kernel⟩
def spDisc (T0 : Addr) (K : PySem.W.Frag) : Sp := fun us H Q _ => ∃ x : Int, us = [.int x] ∧ ∀ n d : Int, 0 ≤ n → n < d → d ≤ 10 → Gives T0 K H Q (encR (mkR n d))
theorem ok_law_discount (D : At K mg "_law_discount" s_law_discount) (T : Nm mg tD tL) (G_law_low : Ok P w K mg base 2 "_law_low" ["_law_n", "_law_d"] (spLow T0 K)) : Ok P w K mg base 3 "_law_discount" ["_law_draw"] (spDisc T0 K) := by
  refine D.ok sc_law_discount (fun _ _ _ _ _ _ us hl => match us, hl with | [_], _ => rfl) (fun vs H Q E h => ?_) (fun f cdv A outer s H us Q E hr h => ?_)
  · obtain ⟨_, rfl, _⟩ := h
    rfl
  · obtain ⟨x, rfl, q⟩ := h
    refine ⟨_, (pss_cons (ps_set (i := 1) sc_law_discount.nd rfl (Or.inl rfl) (pe_op op_add pe_int (pe_op op_mod (pe_callTy call_int1 (by rfl) T.n_int (by decide +kernel) (pa_cons (pv 0) pa_nil)) pe_int)))
  (pss_one (ps_ret (pe_own G_law_low (hr.mono (by decide)) (by rfl) (pa_cons (pe_op op_mod (pe_op op_fdiv (pe_callTy call_int1 (by rfl) T.n_int (by decide +kernel) (pa_cons (pv 0) pa_nil)) pe_int) (pv 1)) (pa_cons (pv 1) pa_nil)))))), ?_⟩
    have h1 := Int.emod_nonneg x (show (9 : Int) ≠ 0 by decide)
    have h2 := Int.emod_lt_of_pos x (show (0 : Int) < 9 by decide)
    have h3 : (0 : Int) < 2 + x % 9 := by omega
    have h4 := Int.emod_nonneg (x / 9) (show 2 + x % 9 ≠ 0 by omega)
    have h5 := Int.emod_lt_of_pos (x / 9) h3
    refine ⟨_, rfl, .inl ⟨_, rfl, _, _, rfl, rfl, (show (0 : Int) < 9 by decide), _, _, rfl, rfl, ?_⟩⟩
    refine ⟨_, rfl, .inl ⟨_, rfl, _, _, rfl, rfl, ⟨by decide, by decide⟩, _, rfl, _, _, rfl, rfl, h3, ?_⟩⟩
    exact ⟨_, rfl, _, _, rfl, h3, by omega, q _ _ h4 h5 (by omega)⟩
end
end Bk

namespace Bk
open PySem PySem.Spec PyProof.Rows L2 GxR TL
def rInt1 : List V → Hp → VK → Prop := fun xs H Q => (∃ i, xs = [.int i] ∧ Q (.int i) H) ∨ ∃ k, xs = [.bl k] ∧ Q (.int (if k then 1 else 0)) H
/-- whatever grows, the answer is a game -/
def GivesG (T : Addr) (K : PySem.W.Frag) (H : Hp) (Q : VK) : Prop := ∀ v H' g, Ext T H H' → Dt K H' v (encG g) → GmOk g → g.length ≤ 16 → Q v H'
theorem drw_at {n : Nat} {ds : List Int} (h : Drw n ds) {k : Nat} (hk : k < n) : ∃ d : Int, (ds.map V.int)[k]? = some (.int d) ∧ 0 ≤ d ∧ d < 5040 := by
  have hl := h.len
  have e : ds[k]? = some (ds[k]'(by omega)) := List.getElem?_eq_getElem _
  have hm := List.mem_of_getElem? e
  exact ⟨_, by rw [List.getElem?_map, e]; rfl, h.ge _ hm, h.lt _ hm⟩
section
variable {K : PySem.W.Frag} {H : Hp}
theorem dtAll_set : ∀ {vs : List V} {ds : List PyData} (j : Nat) {v : V} {d : PyData}, DtAll K H vs ds → Dt K H v d → DtAll K H (vs.set j v) (ds.set j d)
  | _, _, _, _, _, .nil, _ => .nil
  | _, _, 0, _, _, .cons _ r, h => .cons h r
  | _, _, j + 1, _, _, .cons a r, h => .cons a (dtAll_set j r h)
end
theorem zip_fst {α β : Type} : ∀ (l : List α) (m : List β), l.length = m.length → (l.zip m).map (·.1) = l
  | [], [], _ => rfl
  | [], _ :: _, h => by simp at h
  | _ :: _, [], h => by simp at h
  | a :: l, b :: m, h => by
    rw [List.zip_cons_cons, List.map_cons, zip_fst l m (by simpa using h)]
theorem zip_snd {α β : Type} : ∀ (l : List α) (m : List β), l.length = m.length → (l.zip m).map (·.2) = m
  | [], [], _ => rfl
  | [], _ :: _, h => by simp at h
  | _ :: _, [], h => by simp at h
  | a :: l, b :: m, h => by
    rw [List.zip_cons_cons, List.map_cons, zip_snd l m (by simpa using h)]
/-- a game out of its rewards and rows -/
theorem zip_gm {rs : List Rt} {rows : List Row} (hl : rs.length = rows.length) (h1 : 1 ≤ rs.length) (h2 : rs.length ≤ 16) (hr : ∀ r ∈ rs, ROk r) (hw : ∀ r ∈ rows, RowOk rs.length r) : GmOk (rs.zip rows) ∧ (rs.zip rows).length ≤ 16 ∧ encG (rs.zip rows) = .tuple [.tuple (rs.map encR), .tuple (rows.map encRow)] := by
  have hz : (rs.zip rows).length = rs.length := by
    rw [List.length_zip]
    omega
  refine ⟨⟨by omega, by omega, fun s hs => ?_, fun s hs => ?_⟩, by omega, ?_⟩
  · exact hr _ (List.of_mem_zip (show (s.1, s.2) ∈ rs.zip rows from hs)).1
  · rw [hz]
    exact hw _ (List.of_mem_zip (show (s.1, s.2) ∈ rs.zip rows from hs)).2
  · unfold encG
    have e1 : (rs.zip rows).map (fun s => encR s.1) = ((rs.zip rows).map (·.1)).map encR := by rw [List.map_map]; rfl
    have e2 : (rs.zip rows).map (fun s => encRow s.2) = ((rs.zip rows).map (·.2)).map encRow := by rw [List.map_map]; rfl
    rw [e1, e2, zip_fst _ _ hl, zip_snd _ _ hl]
section
variable {P : Program} {w : World} {K : PySem.W.Frag} {mg : Str → Option Value} {base : Heap} {T0 c0 : Addr} {tD tL : Tok}
/-! ### _law_game -/
abbrev s_law_game : Stmt := top 39
theorem sc_law_game : FnScope ["_law_cell_here", "_law_most", "_law_draws_here", "_law_size", "_law_rewards", "_law_state", "_law_moves", "_law_weights", "_law_target", "_law_whole"] ["_law_cell_here", "_law_most"] (defScope s_law_game) := ⟨rfl, rfl, rfl, by decide +kernel, rfl, by decide +kernel, by decide +kernel⟩
def spGame (T0 : Addr) (K : PySem.W.Frag) : Sp := fun us H Q _ => ∃ c : Int, us = [.int c, .int 3] ∧ GivesG T0 K H Q
theorem ok_law_game (D : At K mg "_law_game" s_law_game) (T : Nm mg tD tL) (G_law_draws : Ok P w K mg base 1 "_law_draws" ["_law_cell_here", "_law_count"] (spDraws T0)) (G_law_fraction : Ok P w K mg base 3 "_law_fraction" ["_law_draw"] (spFrac T0 K)) (G_law_low : Ok P w K mg base 2 "_law_low" ["_law_n", "_law_d"] (spLow T0 K)) :
    Ok P w K mg base 4 "_law_game" ["_law_cell_here", "_law_most"] (spGame T0 K) := by
  refine D.ok sc_law_game (fun _ _ _ _ _ _ us hl => match us, hl with | [_, _], _ => rfl) (fun vs H Q E h => ?_) (fun f cdv A outer s H us Q E hr h => ?_)
  · obtain ⟨_, rfl, _⟩ := h
    rfl
  · obtain ⟨c, rfl, q⟩ := h
    refine ⟨_, (pss_cons (ps_set (i := 2) sc_law_game.nd rfl (Or.inr rfl) (pe_own G_law_draws (hr.mono (by decide)) (by rfl) (pa_cons (pv 0) (pa_cons (pe_op op_add (pe_op op_add pe_int (pv 1)) (pe_op op_mul (pv 1) (pv 1))) pa_nil))))
  (C8.pss_cut (ps_set (i := 3) sc_law_game.nd rfl (Or.inr rfl) (pe_op op_add pe_int (pe_op op_mod (pe_callTy call_int1 (by rfl) T.n_int (by decide +kernel) (pa_cons (pe_ix ix_list (pv 2) pe_int (fun _ _ => rfl)) pa_nil)) (pv 1))))
  (pss_cons (ps_setLc (i := 4) (own := [("_law_state", 5)]) (g := _) (tt := _) rfl sc_law_game.nd rfl rfl (sw_true rfl rfl rfl (by decide +kernel)) (pi_range1 (by rfl) T.n_range (pa_cons (pv 3) pa_nil)) (blkOk_by (own := [("_law_state", 5)]) (N := ["_law_cell_here", "_law_most", "_law_draws_here", "_law_size", "_law_rewards", "_law_state", "_law_moves", "_law_weights", "_law_target", "_law_whole"]) (sc := defScope s_law_game) (by decide +kernel)) (fun _ _ _ _ _ => (pg_name (i := 5) sc_law_game.nd rfl (Or.inl rfl))) (fun _ _ _ _ _ => pts_nil) (fun _ _ _ _ _ => (pe_own G_law_fraction (hr.mono (by decide)) (by rfl) (pa_cons (pe_ix (r := rIxL K) ix_list (pv 2) (pe_op op_add pe_int (pv 5)) (fun _ _ => rfl)) pa_nil))))
  (C8.pss_cut (ps_if (pt_cmpR op_eq (pe_op op_mod (pe_op op_fdiv (pe_callTy call_int1 (by rfl) T.n_int (by decide +kernel) (pa_cons (pe_ix ix_list (pv 2) pe_int (fun _ _ => rfl)) pa_nil)) (pv 1)) pe_int) pe_int (nomark _))
  (pss_one (ps_asg (pe_own G_law_low (hr.mono (by decide)) (by rfl) (pa_cons (pe_op op_add (pe_op op_mul (pe_ix ix_tup (pe_ix ix_list (pv 4) pe_int (fun _ _ => rfl)) pe_int (fun _ _ => rfl)) (pe_op op_pow pe_int pe_int)) pe_int) (pa_cons (pe_ix ix_tup (pe_ix ix_list (pv 4) pe_int (fun _ _ => rfl)) pe_int (fun _ _ => rfl)) pa_nil))) (pg_sub (pv 4) pe_int set_list)))
  pss_nil)
  (pss_cons (ps_set (i := 6) sc_law_game.nd rfl (Or.inl rfl) (pe_lst pa_nil))
  (pss_cons (ps_for PassesOwn.never rfl (pi_range1 (by rfl) T.n_range (pa_cons (pv 3) pa_nil)) (pg_name (i := 5) sc_law_game.nd rfl (Or.inr rfl))
  (C8.pss_cut (ps_set (i := 7) sc_law_game.nd rfl (Or.inr rfl) (pe_lc (own := [("_law_target", 8)]) (g := _) (tt := _) rfl sc_law_game.nd (pi_range1 (by rfl) T.n_range (pa_cons (pv 3) pa_nil)) (blkOk_by (own := [("_law_target", 8)]) (N := ["_law_cell_here", "_law_most", "_law_draws_here", "_law_size", "_law_rewards", "_law_state", "_law_moves", "_law_weights", "_law_target", "_law_whole"]) (sc := defScope s_law_game) (by decide +kernel)) (fun _ _ _ _ _ => (pg_name (i := 8) sc_law_game.nd rfl (Or.inl rfl))) (fun _ _ _ _ _ => pts_nil) (fun _ _ _ _ _ => (pe_op op_mod (pe_callTy (T := "int") (r := rInt1) call_int1 (by rfl) T.n_int (by decide +kernel) (pa_cons (pe_ix (r := rIxL K) ix_list (pv 2) (pe_op op_add (pe_op op_add (pe_op op_add pe_int (pv 3)) (pe_op op_mul (pv 3) (pv 5))) (pv 8)) (fun _ _ => rfl)) pa_nil)) pe_int))))
  (C8.pss_cut (ps_if (pt_cmpR op_eq (pe_callB (cr_sum rfl) (by rfl) T.n_sum (by decide +kernel) (pa_cons (pv 7) pa_nil)) pe_int (nomark _))
  (pss_one (ps_asg pe_int (pg_sub (pv 7) (pe_op op_mod (pe_callTy call_int1 (by rfl) T.n_int (by decide +kernel) (pa_cons (pe_op op_add (pv 5) pe_int) pa_nil)) (pv 3)) set_list)))
  pss_nil)
  (pss_cons (ps_set (i := 9) sc_law_game.nd rfl (Or.inr rfl) (pe_callB (cr_sum rfl) (by rfl) T.n_sum (by decide +kernel) (pa_cons (pv 7) pa_nil)))
  (pss_one (ps_expr (pe_bm PySem.F.plainAttrs_list PySem.F.slot_list_append PySem.F.type_list_append mt_append (pv 6) (pa_cons (pe_callTy call_tuple_of (by rfl) T.n_tuple (by decide +kernel) (pa_cons (pe_lc (own := [("_law_target", 8)]) (g := _) (tt := _) rfl sc_law_game.nd (pi_range1 (by rfl) T.n_range (pa_cons (pv 3) pa_nil)) (blkOk_by (own := [("_law_target", 8)]) (N := ["_law_cell_here", "_law_most", "_law_draws_here", "_law_size", "_law_rewards", "_law_state", "_law_moves", "_law_weights", "_law_target", "_law_whole"]) (sc := defScope s_law_game) (by decide +kernel)) (fun _ _ _ _ _ => (pg_name (i := 8) sc_law_game.nd rfl (Or.inl rfl))) (fun _ _ _ _ _ => (pts_one (pt_cmpR op_gt (pe_ix (r := rIxL K) ix_list (pv 7) (pv 8) (fun _ _ => rfl)) pe_int (nomark _)))) (fun _ _ _ _ _ => (pe_tup (pa_cons (pv 8) (pa_cons (pe_own G_law_low (hr.mono (by decide)) (by rfl) (pa_cons (pe_ix (r := rIxL K) ix_list (pv 7) (pv 8) (fun _ _ => rfl)) (pa_cons (pv 9) pa_nil))) pa_nil))))) pa_nil)) pa_nil))))))))
  (pss_one (ps_ret (pe_tup (pa_cons (pe_callTy call_tuple_of (by rfl) T.n_tuple (by decide +kernel) (pa_cons (pv 4) pa_nil)) (pa_cons (pe_callTy call_tuple_of (by rfl) T.n_tuple (by decide +kernel) (pa_cons (pv 6) pa_nil)) pa_nil))))))))))), ?_⟩
    refine ⟨_, rfl, _, rfl, _, _, rfl, rfl, _, rfl, _, rfl, _, _, rfl, rfl, .inl ⟨by decide, by decide⟩, _, _, rfl, rfl, c, 13, rfl, by decide, fun dp ds H1 x1 nd0 hdp hds => ?_⟩
    obtain ⟨d0, e0, h00, h01⟩ := drw_at hds (k := 0) (by decide)
    have m0 := Int.emod_nonneg d0 (show (3 : Int) ≠ 0 by decide)
    have m1 := Int.emod_lt_of_pos d0 (show (0 : Int) < 3 by decide)
    obtain ⟨sz, esz⟩ : ∃ sz : Nat, 1 + d0 % 3 = (sz : Int) := ⟨(1 + d0 % 3).toNat, by omega⟩
    have hsz1 : 1 ≤ sz := by omega
    have hsz3 : sz ≤ 3 := by omega
    refine ⟨fun σ H' => σ = [some (.int c), some (.int 3), some (.ref dp), some (.int sz), none, none, none, none, none, none] ∧ H' = H1, ?_, ?_⟩
    · refine ⟨_, rfl, dp, _, _, _, rfl, rfl, SqL.of hdp, atI_nat (j := 0) e0, .inl ⟨_, rfl, _, rfl, _, _, rfl, rfl, (show (0 : Int) < 3 by decide), _, _, rfl, rfl, ?_, rfl⟩⟩
      show [some (V.int c), some (.int 3), some (.ref dp), some (.int (1 + d0 % 3)), none, none, none, none, none, none] = _
      rw [esz]
    rintro σ H2 ⟨rfl, rfl⟩
    -- the rewards
    refine ⟨_, rfl, _, rfl, by omega, by omega, fun rl nrl => ?_⟩
    have y1 := Ext.new (T := T0) (o := .lst []) nrl
    refine lc_range (lo := 0) (n := ((sz : Nat) : Int).toNat) (fun i H' => Ext T0 H2 H' ∧ ∃ (rvs : List V) (rs : List Rt), H' rl = some (.lst rvs) ∧ DtAll K H' rvs (rs.map encR) ∧ rs.length = i ∧ ∀ r ∈ rs, ∃ n d : Int, r = mkR n d ∧ -6 ≤ n ∧ n ≤ 6 ∧ 1 ≤ d ∧ d ≤ 4)
      ⟨y1, [], [], upd_same, .nil, rfl, (fun r h => by cases h)⟩ ?_ ?_
    · rintro i H' hi ⟨x2, rvs, rs, hrl, dr, lr, hrs⟩
      obtain ⟨d, ed, _, _⟩ := drw_at hds (k := 1 + i) (by omega)
      refine ⟨rfl, ?_⟩
      refine ⟨_, rfl, _, rfl, _, _, rfl, rfl, dp, _, _, .int d, rfl, rfl, SqL.of (x2.lst hdp), at_of (j := 1 + i) (by omega) ed, d, rfl, fun n dd h1 h2 h3 h4 v H3 x3 d3 => ?_⟩
      have hrl3 := x3.lst hrl
      have lrv := dr.length
      rw [List.length_map] at lrv
      refine ⟨rvs, hrl3, lt_line (by omega), (x2.trans x3).put nrl, rvs ++ [v], rs ++ [mkR n dd], upd_same, ?_, by rw [List.length_append, lr]; rfl, fun r hr => ?_⟩
      · have tx := TupX.lst (o := .lst (rvs ++ [v])) hrl3
        rw [List.map_append]
        exact ((dr.ext x3).tx tx).snoc (d3.tx tx)
      · rcases List.mem_append.mp hr with hr | hr
        · exact hrs r hr
        · exact ⟨n, dd, List.mem_singleton.mp hr, h1, h2, h3, h4⟩
    rintro H3 ⟨x2, rvs, rs, hrl, dr, lr, hrs⟩
    have lr' : rs.length = sz := by omega
    have ok3 : ∀ r ∈ rs, ROk r := fun r hr => by
      obtain ⟨n, d, rfl, h1, h2, h3, h4⟩ := hrs r hr
      exact mk_ok (by omega) (Nat.lt_of_le_of_lt (show n.natAbs ≤ 6 by omega) (by decide)) (Nat.lt_of_le_of_lt (show d.natAbs ≤ 4 by omega) (by decide))
    -- one reward may be greater
    refine ⟨fun σ H' => σ = [some (.int c), some (.int 3), some (.ref dp), some (.int sz), some (.ref rl), none, none, none, none, none] ∧ Ext T0 H2 H' ∧ ∃ (rvs : List V) (rs : List Rt), H' rl = some (.lst rvs) ∧ DtAll K H' rvs (rs.map encR) ∧ rs.length = sz ∧ ∀ r ∈ rs, ROk r, ?_, ?_⟩
    · refine ⟨_, rfl, dp, _, _, _, rfl, rfl, SqL.of (x2.lst hdp), atI_nat (j := 0) e0, .inl ⟨_, rfl, _, rfl, _, _, rfl, rfl, ⟨by decide, by decide⟩, _, _, rfl, rfl, (show (0 : Int) < 8 by decide), rfl, _, rfl, ite2 (fun _ => ?_) (fun _ => ?_)⟩⟩
      · obtain ⟨r0, er0⟩ : ∃ r0, rs[0]? = some r0 := ⟨_, List.getElem?_eq_getElem (by omega)⟩
        obtain ⟨v0, ev0, dv0⟩ := dr.get (show (rs.map encR)[0]? = some (encR r0) by rw [List.getElem?_map, er0]; rfl)
        obtain ⟨a0, rfl, st0⟩ := dp_rat dv0
        obtain ⟨n0, dd0, hr0, b1, b2, b3, b4⟩ := hrs r0 (List.mem_of_getElem? er0)
        have hn0 : r0.1.natAbs ≤ 6 := by rw [hr0]; exact Nat.le_trans mk_num_le (by omega)
        have hd0 : 0 < r0.2 := by rw [hr0]; exact mk_den_pos (by omega)
        have hd4 : r0.2 ≤ 4 := by rw [hr0]; exact Int.le_trans (mk_den_le (by omega)) b4
        refine ⟨_, rfl, rl, _, _, _, rfl, rfl, SqL.of hrl, atI_nat (j := 0) ev0, a0, _, _, _, rfl, rfl, st0, at0, _, _, rfl, rfl, ⟨by decide, by decide, by decide⟩, _, _, rfl, rfl, .inl ⟨by omega, by omega⟩, _, _, rfl, rfl, ?_⟩
        refine ⟨_, rfl, rl, _, _, _, rfl, rfl, SqL.of hrl, atI_nat (j := 0) ev0, a0, _, _, _, rfl, rfl, st0, at1, ?_⟩
        refine ⟨_, _, rfl, hd0, by omega, fun v H4 x4 d4 => ?_⟩
        have hrl4 := x4.lst hrl
        have lrv := dr.length
        rw [List.length_map] at lrv
        refine ⟨_, rfl, rl, rvs, 0, 0, rfl, rfl, hrl4, ?_, rfl, (x2.trans x4).put nrl, rvs.set 0 v, rs.set 0 (mkR (r0.1 * 10 ^ 30 + 1) r0.2), upd_same, ?_, by rw [List.length_set]; exact lr', fun r hr => ?_⟩
        · show (if (0 : Int) ≤ 0 then (if (0 : Int) < rvs.length then some (0 : Int).toNat else none) else _) = some 0
          rw [if_pos (by decide), if_pos (by omega)]
          rfl
        · have tx := TupX.lst (o := .lst (rvs.set 0 v)) hrl4
          rw [List.map_set]
          exact dtAll_set 0 ((dr.ext x4).tx tx) (d4.tx tx)
        · rcases List.mem_or_eq_of_mem_set hr with hr | hr
          · exact ok3 r hr
          · rw [hr]
            refine mk_ok hd0 (Nat.lt_of_le_of_lt (show (r0.1 * 10 ^ 30 + 1).natAbs ≤ 6 * 10 ^ 30 + 1 by omega) (by decide)) (Nat.lt_of_le_of_lt (show r0.2.natAbs ≤ 4 by omega) (by decide))
      · exact ⟨rfl, x2, rvs, rs, hrl, dr, lr', ok3⟩
    clear dr hrl hrs ok3 lr lr' rvs rs
    rintro σ H4 ⟨rfl, x4, rvs, rs, hrl, dr, lrs, okr⟩
    -- the rows
    refine ⟨sz0, fun ml nml => ?_⟩
    have nml2 := x4.free ml nml
    have y2 := Ext.new (T := T0) (o := .lst []) nml
    refine ⟨_, rfl, _, rfl, by omega, by omega, for_range (lo := 0) (n := ((sz : Nat) : Int).toNat) (fun i σ H' => ∃ (y5 y7 y9 : Option V) (mvs : List V) (rows : List Row), σ = [some (.int c), some (.int 3), some (.ref dp), some (.int sz), some (.ref rl), y5, some (.ref ml), y7, none, y9] ∧ Ext T0 H4 H' ∧ H' ml = some (.lst mvs) ∧ DtAll K H' mvs (rows.map encRow) ∧ rows.length = i ∧ ∀ r ∈ rows, RowOk sz r)
      ⟨none, none, none, [], [], rfl, y2, upd_same, .nil, rfl, (fun r h => by cases h)⟩ ?_ ?_⟩
    · rintro i σ H' hi ⟨y5, y7, y9, mvs, rows, rfl, x5, hml, dm, lrow, okw⟩
      have hi3 : i < sz := by omega
      have hdp5 := x5.lst (x4.lst hdp)
      -- the weights
      refine ⟨fun σ H'' => ∃ (wl : Addr) (ws : List Int), σ = [some (.int c), some (.int 3), some (.ref dp), some (.int sz), some (.ref rl), some (.int i), some (.ref ml), some (.ref wl), none, y9] ∧ Ext T0 H' H'' ∧ H' wl = none ∧ H'' wl = some (.lst (ws.map V.int)) ∧ ws.length = sz ∧ ∀ w ∈ ws, 0 ≤ w ∧ w ≤ 3, ?_, ?_⟩
      · refine ⟨_, rfl, _, rfl, by omega, by omega, fun wl nwl => ?_⟩
        refine lc_range (lo := 0) (n := ((sz : Nat) : Int).toNat) (fun j H'' => Ext T0 H' H'' ∧ ∃ ws : List Int, H'' wl = some (.lst (ws.map V.int)) ∧ ws.length = j ∧ ∀ w ∈ ws, 0 ≤ w ∧ w ≤ 3)
          ⟨Ext.new nwl, [], upd_same, rfl, (fun r h => by cases h)⟩ ?_ ?_
        · rintro j H'' hj ⟨x6, ws, hwl, lw, hw⟩
          have hb : sz * i ≤ 3 * 2 := Nat.mul_le_mul hsz3 (by omega)
          obtain ⟨d, ed, q0, q1⟩ := drw_at hds (k := 1 + sz + sz * i + j) (by omega)
          have r0 := Int.emod_nonneg d (show (4 : Int) ≠ 0 by decide)
          have r1 := Int.emod_lt_of_pos d (show (0 : Int) < 4 by decide)
          refine ⟨rfl, ?_⟩
          refine ⟨_, rfl, _, rfl, _, _, rfl, rfl, _, rfl, _, rfl, _, _, rfl, rfl, .inl ⟨by omega, by omega⟩, _, _, rfl, rfl, _, rfl, _, _, rfl, rfl, dp, _, _, .int d, rfl, rfl, SqL.of (x6.lst hdp5), at_of (j := 1 + sz + sz * i + j) ?_ ed, .inl ⟨d, rfl, _, _, rfl, rfl, (show (0 : Int) < 4 by decide), ws.map V.int, hwl, lt_line (by rw [List.length_map]; omega), x6.put nwl, ws ++ [d % 4], ?_, by rw [List.length_append, lw]; rfl, fun w hw' => ?_⟩⟩
          · simp only [Int.zero_add, Int.natCast_add, Int.natCast_mul]
            omega
          · rw [upd_same, List.map_append]
            rfl
          · rcases List.mem_append.mp hw' with h | h
            · exact hw w h
            · rw [List.mem_singleton.mp h]
              omega
        · rintro H'' ⟨x6, ws, hwl, lw, hw⟩
          refine ⟨wl, ws, ?_, x6, nwl, hwl, by omega, hw⟩
          show [some (V.int c), some (.int 3), some (.ref dp), some (.int sz), some (.ref rl), some (.int (0 + (i : Int))), some (.ref ml), some (.ref wl), none, y9] = _
          rw [Int.zero_add]
      rintro σ H5 ⟨wl, ws, rfl, x6, nwl, hwl, lw, hw⟩
      -- not all of them zero
      refine ⟨fun σ H'' => ∃ ws : List Int, σ = [some (.int c), some (.int 3), some (.ref dp), some (.int sz), some (.ref rl), some (.int i), some (.ref ml), some (.ref wl), none, y9] ∧ Ext T0 H' H'' ∧ H'' wl = some (.lst (ws.map V.int)) ∧ ws.length = sz ∧ (∀ w ∈ ws, 0 ≤ w ∧ w ≤ 3) ∧ 0 < ws.sum, ?_, ?_⟩
      · obtain ⟨s0, s1⟩ := le_sum (l := ws) fun w h => (hw w h).1
        refine ⟨_, rfl, wl, ws, rfl, SqL.of hwl, rfl, _, rfl, ite2 (fun e => ?_) (fun e => ?_)⟩
        · have es : ws.sum = 0 := V.int.inj (of_decide_eq_true e)
          have q0 := Int.emod_nonneg ((i : Int) + 1) (show (sz : Int) ≠ 0 by omega)
          have q1 := Int.emod_lt_of_pos ((i : Int) + 1) (show (0 : Int) < sz by omega)
          obtain ⟨k, ek⟩ : ∃ k : Nat, ((i : Int) + 1) % (sz : Int) = (k : Int) := ⟨(((i : Int) + 1) % (sz : Int)).toNat, by omega⟩
          have hk : k < ws.length := by omega
          have ewk : ws[k]? = some ws[k] := List.getElem?_eq_getElem hk
          have wk0 : ws[k] = 0 := by
            have h1 := s1 _ (List.mem_of_getElem? ewk)
            have h2 := (hw _ (List.mem_of_getElem? ewk)).1
            omega
          refine ⟨_, rfl, _, rfl, _, _, rfl, rfl, .inl ⟨_, rfl, _, rfl, _, _, rfl, rfl, (show (0 : Int) < sz by omega), wl, _, _, k, rfl, rfl, hwl, ?_, ws.set k 1, rfl, x6.put nwl, ?_, by rw [List.length_set]; exact lw, fun w h => ?_, ?_⟩⟩
          · show ixN (ws.map V.int).length (((i : Int) + 1) % (sz : Int)) = some k
            rw [ek, List.length_map]
            unfold ixN
            rw [if_pos (by omega), if_pos (by omega)]
            simp
          · rw [upd_same, List.map_set]
          · rcases List.mem_or_eq_of_mem_set h with h | h
            · exact hw w h
            · rw [h]
              decide
          · rw [set_sum ewk, es, wk0]
            decide
        · have hne : ws.sum ≠ 0 := fun z => e (decide_eq_true (by rw [z]))
          exact ⟨ws, rfl, x6, hwl, lw, hw, by omega⟩
      clear hwl lw hw ws x6
      rintro σ H6 ⟨ws, rfl, x6, hwl, lw, hw, hpos⟩
      have hb := sum_bound (m := 3) (l := ws) fun w h => (hw w h).2
      have hb9 : ws.sum ≤ 9 := by
        rw [lw] at hb
        omega
      have hrowok := selW_ok (ws := ws) (by omega) (fun w h => (hw w h).1) hpos (by omega)
      rw [lw] at hrowok
      refine ⟨_, rfl, wl, ws, rfl, SqL.of hwl, ?_⟩
      have hml6 := x6.lst hml
      refine ⟨_, rfl, .inl ⟨rfl, _, SqL.of hml6⟩, ?_⟩
      refine ⟨_, rfl, _, rfl, by omega, by omega, fun L nL => ?_⟩
      refine lc_range (lo := 0) (n := ((sz : Nat) : Int).toNat) (fun j H'' => Ext T0 H6 H'' ∧ ∃ acc, H'' L = some (.lst acc) ∧ DtAll K H'' acc ((rowW (selW ws j) ws.sum).map encT))
        ⟨Ext.new nL, [], upd_same, .nil⟩ ?_ ?_
      · rintro j H'' hj ⟨x7, acc, hL, da⟩
        have ew : ws[j]? = some (ws.getD j 0) := by
          rw [List.getD_eq_getElem?_getD, List.getElem?_eq_getElem (by omega)]
          rfl
        have ewv : (ws.map V.int)[j]? = some (.int (ws.getD j 0)) := by rw [List.getElem?_map, ew]; rfl
        have eix : atI (ws.map V.int) (0 + (j : Int)) = some (.int (ws.getD j 0)) := at_of (j := j) (by omega) ewv
        refine ⟨rfl, ?_⟩
        refine ⟨_, rfl, _, rfl, wl, _, _, _, rfl, rfl, SqL.of (x7.lst hwl), eix, _, _, rfl, rfl, _, rfl, ite2 (fun e => ?_) (fun e => ?_)⟩
        · have e := of_decide_eq_true e
          refine ⟨_, rfl, _, rfl, _, rfl, wl, _, _, _, rfl, rfl, SqL.of (x7.lst hwl), eix, _, rfl, _, _, rfl, hpos, by omega, fun v H8 x8 d8 => ⟨sz2, fun t nt => ?_⟩⟩
          have n9 := Ext.new (T := T0) (o := .tup [.int (0 + (j : Int)), v]) nt
          have hL9 := n9.lst (x8.lst hL)
          have dn : Dt K (upd H8 t (.tup [.int (0 + (j : Int)), v])) (.ref t) (encT (j, mkR (ws.getD j 0) ws.sum)) := by
            refine .newT nt (.cons ?_ (.cons d8 .nil))
            rw [Int.zero_add]
            exact .int _
          have lacc : acc.length ≤ 3 := by
            have h1 := da.length
            rw [List.length_map] at h1
            unfold rowW selW at h1
            rw [List.length_map, List.length_map] at h1
            have h2 := List.length_filter_le (fun t => decide (0 < ws.getD t 0)) (List.range j)
            rw [List.length_range] at h2
            omega
          refine ⟨acc, hL9, lt_line (by omega), ((x7.trans x8).trans n9).put nL, acc ++ [.ref t], upd_same, ?_⟩
          have tx := TupX.lst (o := .lst (acc ++ [.ref t])) hL9
          rw [selW_succ_pos e]
          unfold rowW
          rw [List.map_append, List.map_append]
          exact ((da.ext (x8.trans n9)).tx tx).snoc (dn.tx tx)
        · refine ⟨x7, acc, hL, ?_⟩
          rw [selW_succ_neg fun z => e (decide_eq_true z)]
          exact da
      · rintro H7 ⟨x7, acc, hL, da⟩
        rw [Int.toNat_natCast] at da
        refine ⟨L, acc, rfl, .inl ⟨SqL.of hL, fun t nt => ?_⟩⟩
        have n8 := Ext.new (T := T0) (o := .tup acc) nt
        have dn : Dt K (upd H7 t (.tup acc)) (.ref t) (encRow (rowW (selW ws sz) ws.sum)) := .newT nt da
        have w8 := (x6.trans x7).trans n8
        have hml8 := w8.lst hml
        have lmv := dm.length
        rw [List.length_map] at lmv
        refine ⟨ml, mvs, _, rfl, rfl, hml8, lt_line (by omega), _, _, _, mvs ++ [.ref t], rows ++ [rowW (selW ws sz) ws.sum], rfl, (x5.trans w8).put nml, upd_same, ?_, by rw [List.length_append, lrow]; rfl, fun r hr => ?_⟩
        · have tx := TupX.lst (o := .lst (mvs ++ [.ref t])) hml8
          rw [List.map_append]
          exact ((dm.ext w8).tx tx).snoc (dn.tx tx)
        · rcases List.mem_append.mp hr with hr | hr
          · exact okw r hr
          · rw [List.mem_singleton.mp hr]
            exact hrowok
    · rintro σ H' ⟨y5, y7, y9, mvs, rows, rfl, x5, hml, dm, lrow, okw⟩
      have lrow' : rows.length = sz := by omega
      refine ⟨_, rfl, rl, rvs, rfl, .inl ⟨SqL.of (x5.lst hrl), fun t1 nt1 => ?_⟩⟩
      have n1 := Ext.new (T := T0) (o := .tup rvs) nt1
      have d1 : Dt K (upd H' t1 (.tup rvs)) (.ref t1) (.tuple (rs.map encR)) := .newT nt1 (dr.ext x5)
      refine ⟨_, rfl, ml, mvs, rfl, .inl ⟨SqL.of (n1.lst hml), fun t2 nt2 => ?_⟩⟩
      have n2 := Ext.new (T := T0) (o := .tup mvs) nt2
      have d2 : Dt K (upd (upd H' t1 (.tup rvs)) t2 (.tup mvs)) (.ref t2) (.tuple (rows.map encRow)) := .newT nt2 (dm.ext n1)
      obtain ⟨g1, g2, g3⟩ := zip_gm (rs := rs) (rows := rows) (by omega) (by omega) (by omega) okr (by rw [lrs]; exact okw)
      refine ⟨sz2, fun t3 nt3 => ?_⟩
      have n3 := Ext.new (T := T0) (o := .tup [.ref t1, .ref t2]) nt3
      refine q _ _ (rs.zip rows) (((x1.trans x4).trans x5).trans ((n1.trans n2).trans n3)) ?_ g1 g2
      rw [g3]
      exact .newT nt3 (.cons (d1.ext n2) (.cons d2 .nil))
end
end Bk

namespace Bk
open PySem PySem.Spec PyProof.Rows L2 GxR TL
theorem inV_int (t : Int) : ∀ ws : List Int, inV (.int t) (ws.map V.int) = decide (t ∈ ws)
  | [] => rfl
  | w :: r => by
    have ih := inV_int t r
    unfold inV at ih ⊢
    rw [List.map_cons, List.any_cons, ih]
    show ((w == t) || decide (t ∈ r)) = decide (t ∈ w :: r)
    by_cases e : w = t
    · subst e
      simp
    · have h1 : (w == t) = false := beq_eq_false_iff_ne.mpr e
      rw [h1, Bool.false_or]
      have h2 : (t ∈ w :: r) ↔ t ∈ r := by
        rw [List.mem_cons]
        exact ⟨fun h => h.resolve_left fun z => e z.symm, .inr⟩
      exact (decide_eq_decide.mpr h2).symm
theorem flat_ints : ∀ l : List Int, (l.map V.int).all flatV = true
  | [] => rfl
  | x :: r => by
    rw [List.map_cons, List.all_cons, flat_ints r]
    rfl
/-- the places below j that are wanted -/
def tsel (ws : List Int) (j : Nat) : List Nat := (List.range j).filter fun t => decide ((t : Int) ∈ ws)
theorem tsel_pos {ws : List Int} {j : Nat} (h : (j : Int) ∈ ws) : tsel ws (j + 1) = tsel ws j ++ [j] := by
  unfold tsel
  rw [List.range_succ, List.filter_append, List.filter_cons_of_pos (by rw [decide_eq_true_eq]; exact h)]
  rfl
theorem tsel_neg {ws : List Int} {j : Nat} (h : ¬ (j : Int) ∈ ws) : tsel ws (j + 1) = tsel ws j := by
  unfold tsel
  rw [List.range_succ, List.filter_append, List.filter_cons_of_neg (by rw [decide_eq_true_eq]; exact h)]
  simp
theorem tsel_len {ws : List Int} {j : Nat} : (tsel ws j).length ≤ ws.length := by
  have h := pigeon ((tsel ws j).map fun t : Nat => (t : Int)) ws ?_ ?_
  · rw [List.length_map] at h
    exact h
  · have : (tsel ws j).Nodup := List.nodup_range.filter _
    exact List.Pairwise.map _ (fun a b hab e => hab (Int.ofNat.inj e)) this
  · intro x hx
    obtain ⟨t, ht, rfl⟩ := List.mem_map.mp hx
    exact of_decide_eq_true (List.mem_filter.mp ht).2
theorem tsel_ne {ws : List Int} {j : Nat} (h : ws ≠ []) (hw : ∀ w ∈ ws, 0 ≤ w ∧ w < j) : tsel ws j ≠ [] := by
  cases ws with
  | nil => exact absurd rfl h
  | cons w r =>
    intro e
    have h1 := hw w (List.mem_cons_self ..)
    have : w.toNat ∈ tsel (w :: r) j := by
      unfold tsel
      refine List.mem_filter.mpr ⟨List.mem_range.mpr (by omega), decide_eq_true ?_⟩
      rw [Int.toNat_of_nonneg h1.1]
      exact List.mem_cons_self ..
    rw [e] at this
    cases this
section
variable {P : Program} {w : World} {K : PySem.W.Frag} {mg : Str → Option Value} {base : Heap} {T0 c0 : Addr} {tD tL : Tok}
/-! ### _law_sparse -/
abbrev s_law_sparse : Stmt := top 40
theorem sc_law_sparse : FnScope ["_law_script", "_law_size", "_law_rewards", "_law_moves", "_law_state", "_law_draws_here", "_law_wanted", "_law_k", "_law_targets", "_law_target", "_law_weights", "_law_whole"] ["_law_script", "_law_size"] (defScope s_law_sparse) := ⟨rfl, rfl, rfl, by decide +kernel, rfl, by decide +kernel, by decide +kernel⟩
def spSparse (T0 : Addr) (K : PySem.W.Frag) : Sp := fun us H Q _ => ∃ (a : Addr) (ns : List Int) (sz : Nat), us = [.ref a, .int sz] ∧ SqL K H a (ns.map V.int) ∧ 1 ≤ sz ∧ sz ≤ 16 ∧ GivesG T0 K H Q
theorem ok_law_sparse (D : At K mg "_law_sparse" s_law_sparse) (T : Nm mg tD tL) (G_law_cell : Ok P w K mg base 1 "_law_cell" ["_law_script", "_law_k"] (spCell K)) (G_law_draws : Ok P w K mg base 1 "_law_draws" ["_law_cell_here", "_law_count"] (spDraws T0)) (G_law_fraction : Ok P w K mg base 3 "_law_fraction" ["_law_draw"] (spFrac T0 K)) (G_law_low : Ok P w K mg base 2 "_law_low" ["_law_n", "_law_d"] (spLow T0 K)) :
    Ok P w K mg base 4 "_law_sparse" ["_law_script", "_law_size"] (spSparse T0 K) := by
  refine D.ok sc_law_sparse (fun _ _ _ _ _ _ us hl => match us, hl with | [_, _], _ => rfl) (fun vs H Q E h => ?_) (fun f cdv A outer s H us Q E hr h => ?_)
  · obtain ⟨_, _, _, rfl, _⟩ := h
    rfl
  · obtain ⟨a, ns, sz, rfl, hS, hsz1, hsz16, q⟩ := h
    refine ⟨_, (pss_cons (ps_set (i := 2) sc_law_sparse.nd rfl (Or.inl rfl) (pe_lst pa_nil))
  (pss_cons (ps_set (i := 3) sc_law_sparse.nd rfl (Or.inl rfl) (pe_lst pa_nil))
  (pss_cons (ps_for PassesOwn.never rfl (pi_range1 (by rfl) T.n_range (pa_cons (pv 1) pa_nil)) (pg_name (i := 4) sc_law_sparse.nd rfl (Or.inl rfl))
  (pss_cons (ps_set (i := 5) sc_law_sparse.nd rfl (Or.inr rfl) (pe_own G_law_draws (hr.mono (by decide)) (by rfl) (pa_cons (pe_own G_law_cell (hr.mono (by decide)) (by rfl) (pa_cons (pv 0) (pa_cons (pe_op op_add pe_int (pv 4)) pa_nil))) (pa_cons pe_int pa_nil))))
  (C8.pss_cut (ps_set (i := 6) sc_law_sparse.nd rfl (Or.inr rfl) (pe_lst (pa_cons (pe_op op_mod (pe_callTy call_int1 (by rfl) T.n_int (by decide +kernel) (pa_cons (pe_ix ix_list (pv 5) pe_int (fun _ _ => rfl)) pa_nil)) (pv 1)) pa_nil)))
  (C8.pss_cut (ps_if (pt_cmpR op_eq (pe_op op_mod (pe_callTy call_int1 (by rfl) T.n_int (by decide +kernel) (pa_cons (pe_ix ix_list (pv 5) pe_int (fun _ _ => rfl)) pa_nil)) pe_int) pe_int (nomark _))
  (pss_one (ps_expr (pe_bm PySem.F.plainAttrs_list PySem.F.slot_list_append PySem.F.type_list_append mt_append (pv 6) (pa_cons (pe_op op_mod (pe_callTy call_int1 (by rfl) T.n_int (by decide +kernel) (pa_cons (pe_op op_add (pv 4) (pe_op op_mod (pe_callTy call_int1 (by rfl) T.n_int (by decide +kernel) (pa_cons (pe_ix ix_list (pv 5) pe_int (fun _ _ => rfl)) pa_nil)) pe_int)) pa_nil)) (pv 1)) pa_nil))))
  pss_nil)
  (C8.pss_cut (ps_if (pt_cmpR op_eq (pe_op op_mod (pe_op op_fdiv (pe_callTy call_int1 (by rfl) T.n_int (by decide +kernel) (pa_cons (pe_ix ix_list (pv 5) pe_int (fun _ _ => rfl)) pa_nil)) pe_int) pe_int) pe_int (nomark _))
  (pss_one (ps_set (i := 6) sc_law_sparse.nd rfl (Or.inr rfl) (pe_op op_cat (pv 6) (pe_lc (own := [("_law_k", 7)]) (g := _) (tt := _) rfl sc_law_sparse.nd (pi_range1 (by rfl) T.n_range (pa_cons pe_int pa_nil)) (blkOk_by (own := [("_law_k", 7)]) (N := ["_law_script", "_law_size", "_law_rewards", "_law_moves", "_law_state", "_law_draws_here", "_law_wanted", "_law_k", "_law_targets", "_law_target", "_law_weights", "_law_whole"]) (sc := defScope s_law_sparse) (by decide +kernel)) (fun _ _ _ _ _ => (pg_name (i := 7) sc_law_sparse.nd rfl (Or.inl rfl))) (fun _ _ _ _ _ => pts_nil) (fun _ _ _ _ _ => (pe_op op_mod (pe_callTy (T := "int") (r := rInt1) call_int1 (by rfl) T.n_int (by decide +kernel) (pa_cons (pe_ix (r := rIxL K) ix_list (pv 5) (pe_op op_add pe_int (pv 7)) (fun _ _ => rfl)) pa_nil)) (pv 1)))))))
  pss_nil)
  (C8.pss_cut (ps_set (i := 8) sc_law_sparse.nd rfl (Or.inr rfl) (pe_lc (own := [("_law_target", 9)]) (g := _) (tt := _) rfl sc_law_sparse.nd (pi_range1 (by rfl) T.n_range (pa_cons (pv 1) pa_nil)) (blkOk_by (own := [("_law_target", 9)]) (N := ["_law_script", "_law_size", "_law_rewards", "_law_moves", "_law_state", "_law_draws_here", "_law_wanted", "_law_k", "_law_targets", "_law_target", "_law_weights", "_law_whole"]) (sc := defScope s_law_sparse) (by decide +kernel)) (fun _ _ _ _ _ => (pg_name (i := 9) sc_law_sparse.nd rfl (Or.inl rfl))) (fun _ _ _ _ _ => (pts_one (pt_cmpR (r := rIn K false) op_in_seq (pv 9) (pv 6) rfl))) (fun _ _ _ _ _ => (pv 9))))
  (C8.pss_cut (ps_set (i := 10) sc_law_sparse.nd rfl (Or.inr rfl) (pe_lc (own := [("_law_k", 7)]) (g := _) (tt := _) rfl sc_law_sparse.nd (pi_range1 (by rfl) T.n_range (pa_cons (pe_callB call_len_seq (by rfl) T.n_len PySem.boot_len (pa_cons (pv 8) pa_nil)) pa_nil)) (blkOk_by (own := [("_law_k", 7)]) (N := ["_law_script", "_law_size", "_law_rewards", "_law_moves", "_law_state", "_law_draws_here", "_law_wanted", "_law_k", "_law_targets", "_law_target", "_law_weights", "_law_whole"]) (sc := defScope s_law_sparse) (by decide +kernel)) (fun _ _ _ _ _ => (pg_name (i := 7) sc_law_sparse.nd rfl (Or.inl rfl))) (fun _ _ _ _ _ => pts_nil) (fun _ _ _ _ _ => (pe_op op_add pe_int (pe_op op_mod (pe_callTy (T := "int") (r := rInt1) call_int1 (by rfl) T.n_int (by decide +kernel) (pa_cons (pe_ix (r := rIxL K) ix_list (pv 5) (pe_op op_add pe_int (pv 7)) (fun _ _ => rfl)) pa_nil)) pe_int)))))
  (pss_cons (ps_set (i := 11) sc_law_sparse.nd rfl (Or.inr rfl) (pe_callB (cr_sum rfl) (by rfl) T.n_sum (by decide +kernel) (pa_cons (pv 10) pa_nil)))
  (pss_cons (ps_expr (pe_bm PySem.F.plainAttrs_list PySem.F.slot_list_append PySem.F.type_list_append mt_append (pv 3) (pa_cons (pe_callTy call_tuple_of (by rfl) T.n_tuple (by decide +kernel) (pa_cons (pe_lc (own := [("_law_k", 7)]) (g := _) (tt := _) rfl sc_law_sparse.nd (pi_range1 (by rfl) T.n_range (pa_cons (pe_callB call_len_seq (by rfl) T.n_len PySem.boot_len (pa_cons (pv 8) pa_nil)) pa_nil)) (blkOk_by (own := [("_law_k", 7)]) (N := ["_law_script", "_law_size", "_law_rewards", "_law_moves", "_law_state", "_law_draws_here", "_law_wanted", "_law_k", "_law_targets", "_law_target", "_law_weights", "_law_whole"]) (sc := defScope s_law_sparse) (by decide +kernel)) (fun _ _ _ _ _ => (pg_name (i := 7) sc_law_sparse.nd rfl (Or.inl rfl))) (fun _ _ _ _ _ => pts_nil) (fun _ _ _ _ _ => (pe_tup (pa_cons (pe_ix (r := rIxL K) ix_list (pv 8) (pv 7) (fun _ _ => rfl)) (pa_cons (pe_own G_law_low (hr.mono (by decide)) (by rfl) (pa_cons (pe_ix (r := rIxL K) ix_list (pv 10) (pv 7) (fun _ _ => rfl)) (pa_cons (pv 11) pa_nil))) pa_nil))))) pa_nil)) pa_nil)))
  (pss_one (ps_expr (pe_bm PySem.F.plainAttrs_list PySem.F.slot_list_append PySem.F.type_list_append mt_append (pv 2) (pa_cons (pe_own G_law_fraction (hr.mono (by decide)) (by rfl) (pa_cons (pe_ix ix_list (pv 5) pe_int (fun _ _ => rfl)) pa_nil)) pa_nil)))))))))))))
  (pss_one (ps_ret (pe_tup (pa_cons (pe_callTy call_tuple_of (by rfl) T.n_tuple (by decide +kernel) (pa_cons (pv 2) pa_nil)) (pa_cons (pe_callTy call_tuple_of (by rfl) T.n_tuple (by decide +kernel) (pa_cons (pv 3) pa_nil)) pa_nil)))))))), ?_⟩
    refine ⟨sz0, fun rl nrl => ⟨sz0, fun ml nml => ?_⟩⟩
    have y1 := Ext.new (T := T0) (o := .lst []) nrl
    have y2 := Ext.new (T := T0) (o := .lst []) nml
    have nml0 := y1.free ml nml
    have mrl : rl ≠ ml := fun e => by rw [← e, upd_same] at nml; cases nml
    refine ⟨_, rfl, _, rfl, by omega, by omega, for_range (lo := 0) (n := ((sz : Nat) : Int).toNat) (fun i σ H' => ∃ (y4 y5 y6 y8 y10 y11 : Option V) (rvs mvs : List V) (rs : List Rt) (rows : List Row),
        σ = [some (.ref a), some (.int sz), some (.ref rl), some (.ref ml), y4, y5, y6, none, y8, none, y10, y11] ∧ Ext T0 H H' ∧ H' rl = some (.lst rvs) ∧ H' ml = some (.lst mvs) ∧ DtAll K H' rvs (rs.map encR) ∧ DtAll K H' mvs (rows.map encRow) ∧ rs.length = i ∧ rows.length = i ∧ (∀ r ∈ rs, ROk r) ∧ ∀ r ∈ rows, RowOk sz r)
      ⟨none, none, none, none, none, none, [], [], [], [], rfl, y1.trans y2, y2.lst upd_same, upd_same, .nil, .nil, rfl, rfl, (fun r h => by cases h), (fun r h => by cases h)⟩ ?_ ?_⟩
    · rintro i σ H' hi ⟨y4, y5, y6, y8, y10, y11, rvs, mvs, rs, rows, rfl, x0, hrl, hml, dr, dm, lrs, lrow, okr, okw⟩
      have hi16 : i < sz := by omega
      refine ⟨_, rfl, _, rfl, _, _, rfl, rfl, a, ns, 1 + i, ?_, x0.seqL hS, fun z => ?_⟩
      · show [V.ref a, V.int (1 + (0 + (i : Int)))] = _
        rw [show (1 + (0 + (i : Int))) = ((1 + i : Nat) : Int) by omega]
      refine ⟨z, 16, rfl, by decide, fun dp ds H1 x1 nd hdp hds => ?_⟩
      have szpos : (0 : Int) < (sz : Int) := by omega
      have modsz : ∀ z : Int, 0 ≤ z % (sz : Int) ∧ z % (sz : Int) < (sz : Int) := fun z => ⟨Int.emod_nonneg _ (by omega), Int.emod_lt_of_pos _ szpos⟩
      obtain ⟨g0, eg0, _⟩ := drw_at hds (k := 0) (by decide)
      obtain ⟨g1, eg1, _⟩ := drw_at hds (k := 1) (by decide)
      obtain ⟨g2, eg2, _⟩ := drw_at hds (k := 2) (by decide)
      obtain ⟨g3, eg3, _⟩ := drw_at hds (k := 3) (by decide)
      -- what is wanted
      let M : Nat → L2.St → Hp → Prop := fun m σ H'' => ∃ (wl : Addr) (ws : List Int), σ = [some (.ref a), some (.int sz), some (.ref rl), some (.ref ml), some (.int (0 + (i : Int))), some (.ref dp), some (.ref wl), none, y8, none, y10, y11] ∧ Ext T0 H1 H'' ∧ H1 wl = none ∧ H'' wl = some (.lst (ws.map V.int)) ∧ ws ≠ [] ∧ ws.length ≤ m ∧ ∀ w ∈ ws, 0 ≤ w ∧ w < sz
      refine ⟨M 1, ?_, ?_⟩
      · refine ⟨_, rfl, dp, _, _, _, rfl, rfl, SqL.of hdp, atI_nat (j := 1) eg1, .inl ⟨_, rfl, _, rfl, _, _, rfl, rfl, szpos, by show 1 ≤ sizeLine; rw [sizeLine_eq]; decide, fun wl nwl => ?_⟩⟩
        refine ⟨wl, [g1 % sz], rfl, Ext.new nwl, nwl, upd_same, by simp, Nat.le_refl _, fun w hw => ?_⟩
        rw [List.mem_singleton.mp hw]
        exact modsz _
      rintro σ H2 ⟨wl, ws, rfl, x2, nwl, hwl, hne, hlw, hw⟩
      refine ⟨M 2, ?_, ?_⟩
      · refine ⟨_, rfl, dp, _, _, _, rfl, rfl, SqL.of (x2.lst hdp), atI_nat (j := 0) eg0, .inl ⟨_, rfl, _, _, rfl, rfl, (show (0 : Int) < 2 by decide), rfl, _, rfl, ite2 (fun _ => ?_) (fun _ => ?_)⟩⟩
        · refine ⟨_, rfl, .inl ⟨rfl, _, SqL.of hwl⟩, _, rfl, _, rfl, dp, _, _, _, rfl, rfl, SqL.of (x2.lst hdp), atI_nat (j := 2) eg2, .inl ⟨_, rfl, _, _, rfl, rfl, (show (0 : Int) < 5 by decide), _, _, rfl, rfl, .inl ⟨_, rfl, _, rfl, _, _, rfl, rfl, szpos, wl, _, _, rfl, rfl, hwl, lt_line (by rw [List.length_map]; omega), ?_⟩⟩⟩
          refine ⟨wl, ws ++ [(0 + (i : Int) + g2 % 5) % sz], rfl, x2.put nwl, nwl, ?_, by simp, by rw [List.length_append, List.length_singleton]; omega, fun w hw' => ?_⟩
          · rw [upd_same, List.map_append]
            rfl
          · rcases List.mem_append.mp hw' with h | h
            · exact hw w h
            · rw [List.mem_singleton.mp h]
              exact modsz _
        · exact ⟨wl, ws, rfl, x2, nwl, hwl, hne, by omega, hw⟩
      clear hw hlw hne hwl nwl x2 ws wl
      rintro σ H3 ⟨wl, ws, rfl, x3, nwl, hwl, hne, hlw, hw⟩
      refine ⟨M 6, ?_, ?_⟩
      · refine ⟨_, rfl, dp, _, _, _, rfl, rfl, SqL.of (x3.lst hdp), atI_nat (j := 0) eg0, .inl ⟨_, rfl, _, _, rfl, rfl, ⟨by decide, by decide⟩, _, _, rfl, rfl, (show (0 : Int) < 4 by decide), rfl, _, rfl, ite2 (fun _ => ?_) (fun _ => ?_)⟩⟩
        · refine ⟨_, rfl, 4, rfl, by decide, by decide, fun L nL => ?_⟩
          refine lc_range (lo := 0) (n := (4 : Int).toNat) (fun j H'' => Ext T0 H3 H'' ∧ ∃ us : List Int, H'' L = some (.lst (us.map V.int)) ∧ us.length = j ∧ ∀ w ∈ us, 0 ≤ w ∧ w < sz)
            ⟨Ext.new nL, [], upd_same, rfl, (fun r h => by cases h)⟩ ?_ ?_
          · rintro j H'' hj ⟨x4, us, hL, lu, hu⟩
            have hj4 : j < 4 := hj
            obtain ⟨d, ed, _⟩ := drw_at hds (k := 6 + j) (by omega)
            refine ⟨rfl, ?_⟩
            refine ⟨_, rfl, _, rfl, _, _, rfl, rfl, dp, _, _, .int d, rfl, rfl, SqL.of (x4.lst (x3.lst hdp)), at_of (j := 6 + j) (by omega) ed, .inl ⟨d, rfl, _, rfl, _, _, rfl, rfl, szpos, us.map V.int, hL, lt_line (by rw [List.length_map]; omega), x4.put nL, us ++ [d % sz], ?_, by rw [List.length_append, lu]; rfl, fun w hw' => ?_⟩⟩
            · rw [upd_same, List.map_append]
              rfl
            · rcases List.mem_append.mp hw' with h | h
              · exact hu w h
              · rw [List.mem_singleton.mp h]
                exact modsz _
          · rintro H4 ⟨x4, us, hL, lu, hu⟩
            have lu4 : us.length = 4 := lu
            refine ⟨wl, L, _, _, rfl, rfl, x4.lst hwl, hL, le_line (by rw [List.length_map, List.length_map]; omega), fun W nW => ?_⟩
            refine ⟨W, ws ++ us, rfl, (x3.trans x4).trans (Ext.new nW), (x3.trans x4).free W nW, ?_, by simp [hne], by rw [List.length_append]; omega, fun w hw' => ?_⟩
            · rw [upd_same, List.map_append]
            · rcases List.mem_append.mp hw' with h | h
              · exact hw w h
              · exact hu w h
        · exact ⟨wl, ws, rfl, x3, nwl, hwl, hne, by omega, hw⟩
      clear hw hlw hne hwl nwl x3 ws wl
      rintro σ H4 ⟨wl, ws, rfl, x4, nwl, hwl, hne, hlw, hw⟩
      -- the targets
      refine ⟨fun σ H'' => ∃ tl' : Addr, σ = [some (.ref a), some (.int sz), some (.ref rl), some (.ref ml), some (.int (0 + (i : Int))), some (.ref dp), some (.ref wl), none, some (.ref tl'), none, y10, y11] ∧ Ext T0 H1 H'' ∧ H'' tl' = some (.lst ((tsel ws sz).map fun t : Nat => V.int t)), ?_, ?_⟩
      · refine ⟨_, rfl, _, rfl, by omega, by omega, fun L nL => ?_⟩
        refine lc_range (lo := 0) (n := ((sz : Nat) : Int).toNat) (fun j H'' => Ext T0 H4 H'' ∧ H'' L = some (.lst ((tsel ws j).map fun t : Nat => V.int t)))
          ⟨Ext.new nL, upd_same⟩ ?_ ?_
        · rintro j H'' hj ⟨x5, hL⟩
          refine ⟨rfl, ?_⟩
          have lt := tsel_len (ws := ws) (j := j)
          refine ⟨_, rfl, _, rfl, wl, _, rfl, .inl (SqL.of (x5.lst hwl)), rfl, flat_ints _, _, rfl, ?_⟩
          rw [inV_int]
          refine ite2 (fun e => ?_) (fun e => ?_)
          · have e := of_decide_eq_true e
            rw [Int.zero_add] at e
            refine ⟨_, rfl, _, hL, lt_line (by rw [List.length_map]; omega), x5.put nL, ?_⟩
            rw [upd_same, tsel_pos (j := j) e, List.map_append, Int.zero_add]
            rfl
          · refine ⟨x5, ?_⟩
            rw [tsel_neg (j := j) fun z => e (decide_eq_true (by rw [Int.zero_add]; exact z))]
            exact hL
        · rintro H5 ⟨x5, hL⟩
          rw [Int.toNat_natCast] at hL
          exact ⟨L, rfl, x4.trans x5, hL⟩
      rintro σ H5 ⟨tl', rfl, x5, htl⟩
      have lts := tsel_len (ws := ws) (j := sz)
      have tne := tsel_ne hne hw
      have tpos : 1 ≤ (tsel ws sz).length := List.length_pos_iff.mpr tne
      -- their weights
      refine ⟨fun σ H'' => ∃ (ql : Addr) (qs : List Int), σ = [some (.ref a), some (.int sz), some (.ref rl), some (.ref ml), some (.int (0 + (i : Int))), some (.ref dp), some (.ref wl), none, some (.ref tl'), none, some (.ref ql), y11] ∧ Ext T0 H1 H'' ∧ H'' tl' = some (.lst ((tsel ws sz).map fun t : Nat => V.int t)) ∧ H'' ql = some (.lst (qs.map V.int)) ∧ qs.length = (tsel ws sz).length ∧ ∀ x ∈ qs, 1 ≤ x ∧ x ≤ 3, ?_, ?_⟩
      · refine ⟨_, rfl, tl', _, rfl, .inl (SqL.of htl), _, rfl, by omega, by rw [List.length_map]; omega, fun L nL => ?_⟩
        refine lc_range (lo := 0) (n := ((((tsel ws sz).map fun t : Nat => V.int t).length : Nat) : Int).toNat) (fun j H'' => Ext T0 H5 H'' ∧ ∃ qs : List Int, H'' L = some (.lst (qs.map V.int)) ∧ qs.length = j ∧ ∀ x ∈ qs, 1 ≤ x ∧ x ≤ 3)
          ⟨Ext.new nL, [], upd_same, rfl, (fun r h => by cases h)⟩ ?_ ?_
        · rintro j H'' hj ⟨x6, qs, hL, lq, hq⟩
          rw [List.length_map] at hj
          obtain ⟨d, ed, _⟩ := drw_at hds (k := 10 + j) (by omega)
          have r0 := Int.emod_nonneg d (show (3 : Int) ≠ 0 by decide)
          have r1 := Int.emod_lt_of_pos d (show (0 : Int) < 3 by decide)
          refine ⟨rfl, ?_⟩
          refine ⟨_, rfl, _, rfl, _, _, rfl, rfl, dp, _, _, .int d, rfl, rfl, SqL.of (x6.lst (x5.lst hdp)), at_of (j := 10 + j) (by omega) ed, .inl ⟨d, rfl, _, _, rfl, rfl, (show (0 : Int) < 3 by decide), _, _, rfl, rfl, qs.map V.int, hL, lt_line (by rw [List.length_map]; omega), x6.put nL, qs ++ [1 + d % 3], ?_, by rw [List.length_append, lq]; rfl, fun w hw' => ?_⟩⟩
          · rw [upd_same, List.map_append]
            rfl
          · rcases List.mem_append.mp hw' with h | h
            · exact hq w h
            · rw [List.mem_singleton.mp h]
              omega
        · rintro H6 ⟨x6, qs, hL, lq, hq⟩
          rw [List.length_map, Int.toNat_natCast] at lq
          exact ⟨L, qs, rfl, x5.trans x6, x6.lst htl, hL, lq, hq⟩
      clear htl x5
      rintro σ H6 ⟨ql, qs, rfl, x6, htl, hql, lq, hq⟩
      have spos : 0 < qs.sum := by
        obtain ⟨s0, s1⟩ := le_sum (l := qs) fun w h => by have := (hq w h).1; omega
        obtain ⟨z0, ez0⟩ : ∃ z0, qs[0]? = some z0 := ⟨_, List.getElem?_eq_getElem (by omega)⟩
        have h1 := s1 _ (List.mem_of_getElem? ez0)
        have h2 := (hq _ (List.mem_of_getElem? ez0)).1
        omega
      have sbig := sum_bound (m := 3) (l := qs) fun w h => (hq w h).2
      have s18 : qs.sum ≤ 18 := by
        have : (qs.length : Int) ≤ 6 := by omega
        omega
      have hzl : ((tsel ws sz).zip qs).length = qs.length := by rw [List.length_zip]; omega
      have rowok : RowOk sz (rowW ((tsel ws sz).zip qs) qs.sum) := by
        refine rowW_ok (by omega) ?_ ?_ ?_ ?_ spos (by omega)
        · have hp : ((((tsel ws sz).zip qs).map (·.1))).Pairwise (· < ·) := by
            rw [zip_fst _ _ lq.symm]
            exact List.pairwise_lt_range.filter _
          exact (List.pairwise_map.mp hp)
        · intro p hp
          have := (List.of_mem_zip (show (p.1, p.2) ∈ (tsel ws sz).zip qs from hp)).1
          exact List.mem_range.mp (List.mem_filter.mp this).1
        · intro p hp
          have := (List.of_mem_zip (show (p.1, p.2) ∈ (tsel ws sz).zip qs from hp)).2
          have := (hq _ this).1
          omega
        · rw [zip_snd _ _ lq.symm]
      have w6 := x1.trans x6
      have hml6 := w6.lst hml
      refine ⟨_, rfl, ql, qs, rfl, SqL.of hql, ?_⟩
      refine ⟨_, rfl, .inl ⟨rfl, _, SqL.of hml6⟩, ?_⟩
      refine ⟨_, rfl, tl', _, rfl, .inl (SqL.of htl), _, rfl, by omega, by rw [List.length_map]; omega, fun L nL => ?_⟩
      refine lc_range (lo := 0) (n := ((((tsel ws sz).map fun t : Nat => V.int t).length : Nat) : Int).toNat) (fun j H'' => Ext T0 H6 H'' ∧ ∃ acc, H'' L = some (.lst acc) ∧ DtAll K H'' acc ((rowW (((tsel ws sz).zip qs).take j) qs.sum).map encT))
        ⟨Ext.new nL, [], upd_same, .nil⟩ ?_ ?_
      · rintro j H'' hj ⟨x7, acc, hL, da⟩
        rw [List.length_map] at hj
        obtain ⟨t, et⟩ : ∃ t, (tsel ws sz)[j]? = some t := ⟨_, List.getElem?_eq_getElem (by omega)⟩
        obtain ⟨x, ex⟩ : ∃ x, qs[j]? = some x := ⟨_, List.getElem?_eq_getElem (by omega)⟩
        have ez : ((tsel ws sz).zip qs)[j]? = some (t, x) := List.getElem?_zip_eq_some.mpr ⟨et, ex⟩
        have et1 : ((tsel ws sz).map fun t : Nat => V.int t)[j]? = some (.int t) := by rw [List.getElem?_map, et]; rfl
        have ex1 : (qs.map V.int)[j]? = some (.int x) := by rw [List.getElem?_map, ex]; rfl
        refine ⟨rfl, ?_⟩
        refine ⟨_, rfl, _, rfl, tl', _, _, _, rfl, rfl, SqL.of (x7.lst htl), at_of (j := j) (by omega) et1, _, rfl, _, rfl, ql, _, _, _, rfl, rfl, SqL.of (x7.lst hql), at_of (j := j) (by omega) ex1, _, rfl, x, _, rfl, spos, by omega, fun v H8 x8 d8 => ⟨sz2, fun tt nt => ?_⟩⟩
        have n9 := Ext.new (T := T0) (o := .tup [.int (t : Nat), v]) nt
        have hL9 := n9.lst (x8.lst hL)
        have dn : Dt K (upd H8 tt (.tup [.int (t : Nat), v])) (.ref tt) (encT (t, mkR x qs.sum)) := .newT nt (.cons (.int _) (.cons d8 .nil))
        have lacc : acc.length ≤ 6 := by
          have h1 := da.length
          unfold rowW at h1
          rw [List.length_map, List.length_map, List.length_take] at h1
          omega
        refine ⟨acc, hL9, lt_line (by omega), ((x7.trans x8).trans n9).put nL, acc ++ [.ref tt], upd_same, ?_⟩
        have tx := TupX.lst (o := .lst (acc ++ [.ref tt])) hL9
        rw [take_at ez]
        unfold rowW
        rw [List.map_append, List.map_append]
        exact ((da.ext (x8.trans n9)).tx tx).snoc (dn.tx tx)
      · rintro H7 ⟨x7, acc, hL, da⟩
        rw [List.length_map, Int.toNat_natCast, ← lq, ← hzl, List.take_length] at da
        refine ⟨L, acc, rfl, .inl ⟨SqL.of hL, fun t nt => ?_⟩⟩
        have n8 := Ext.new (T := T0) (o := .tup acc) nt
        have dn : Dt K (upd H7 t (.tup acc)) (.ref t) (encRow (rowW ((tsel ws sz).zip qs) qs.sum)) := .newT nt da
        have w8 := (w6.trans x7).trans n8
        have hml8 := w8.lst hml
        have hrl8 := w8.lst hrl
        have lmv := dm.length
        have lrv := dr.length
        rw [List.length_map] at lmv lrv
        refine ⟨ml, mvs, _, rfl, rfl, hml8, lt_line (by omega), ?_⟩
        have tx8 := TupX.lst (o := .lst (mvs ++ [.ref t])) hml8
        have hrl9 : upd (upd H7 t (.tup acc)) ml (.lst (mvs ++ [.ref t])) rl = some (.lst rvs) := by rw [upd_ne mrl]; exact hrl8
        refine ⟨_, rfl, .inl ⟨rfl, _, SqL.of hrl9⟩, ?_⟩
        have y8' : Ext T0 H (upd (upd H7 t (.tup acc)) ml (.lst (mvs ++ [.ref t]))) := (x0.trans w8).put nml0
        have hdp9 : upd (upd H7 t (.tup acc)) ml (.lst (mvs ++ [.ref t])) dp = some (.lst (ds.map V.int)) := by
          have h8 := (((x6.trans x7).trans n8).lst hdp)
          have hne : dp ≠ ml := fun e => by
            rw [e, hml] at nd
            cases nd
          rw [upd_ne hne]
          exact h8
        refine ⟨_, rfl, dp, _, _, _, rfl, rfl, SqL.of hdp9, atI_nat (j := 3) eg3, g3, rfl, fun n d b1 b2 b3 b4 v H9 x9 d9 => ?_⟩
        have hrl10 := x9.lst hrl9
        refine ⟨rl, rvs, _, rfl, rfl, hrl10, lt_line (by omega), ?_⟩
        have tx9 := TupX.lst (o := .lst (rvs ++ [v])) hrl10
        refine ⟨_, _, _, _, _, _, rvs ++ [v], mvs ++ [.ref t], rs ++ [mkR n d], rows ++ [rowW ((tsel ws sz).zip qs) qs.sum], rfl, (y8'.trans x9).put nrl, upd_same, ?_, ?_, ?_, by rw [List.length_append, lrs]; rfl, by rw [List.length_append, lrow]; rfl, fun r hr => ?_, fun r hr => ?_⟩
        · rw [upd_ne mrl.symm]
          exact x9.lst upd_same
        · rw [List.map_append]
          exact ((((dr.ext w8).tx tx8).ext x9).tx tx9).snoc (d9.tx tx9)
        · rw [List.map_append]
          exact ((((dm.ext w8).tx tx8).ext x9).tx tx9).snoc (((dn.tx tx8).ext x9).tx tx9)
        · rcases List.mem_append.mp hr with hr | hr
          · exact okr r hr
          · rw [List.mem_singleton.mp hr]
            exact mk_ok (by omega) (Nat.lt_of_le_of_lt (show n.natAbs ≤ 6 by omega) (by decide)) (Nat.lt_of_le_of_lt (show d.natAbs ≤ 4 by omega) (by decide))
        · rcases List.mem_append.mp hr with hr | hr
          · exact okw r hr
          · rw [List.mem_singleton.mp hr]
            exact rowok
    · rintro σ H' ⟨y4, y5, y6, y8, y10, y11, rvs, mvs, rs, rows, rfl, x0, hrl, hml, dr, dm, lrs, lrow, okr, okw⟩
      refine ⟨_, rfl, rl, rvs, rfl, .inl ⟨SqL.of hrl, fun t1 nt1 => ?_⟩⟩
      have n1 := Ext.new (T := T0) (o := .tup rvs) nt1
      have d1 : Dt K (upd H' t1 (.tup rvs)) (.ref t1) (.tuple (rs.map encR)) := .newT nt1 dr
      refine ⟨_, rfl, ml, mvs, rfl, .inl ⟨SqL.of (n1.lst hml), fun t2 nt2 => ?_⟩⟩
      have n2 := Ext.new (T := T0) (o := .tup mvs) nt2
      have d2 : Dt K (upd (upd H' t1 (.tup rvs)) t2 (.tup mvs)) (.ref t2) (.tuple (rows.map encRow)) := .newT nt2 (dm.ext n1)
      have lrs' : rs.length = sz := by omega
      obtain ⟨g1, g2, g3⟩ := zip_gm (rs := rs) (rows := rows) (by omega) (by omega) (by omega) okr (by rw [lrs']; exact okw)
      refine ⟨sz2, fun t3 nt3 => ?_⟩
      have n3 := Ext.new (T := T0) (o := .tup [.ref t1, .ref t2]) nt3
      refine q _ _ (rs.zip rows) (x0.trans ((n1.trans n2).trans n3)) ?_ g1 g2
      rw [g3]
      exact .newT nt3 (.cons (d1.ext n2) (.cons d2 .nil))
end
end Bk

namespace Bk
open PySem PySem.Spec PyProof.Rows L2 GxR TL
theorem inV_str (s : Str) : ∀ ws : List Str, inV (.str s) (ws.map V.str) = decide (s ∈ ws)
  | [] => rfl
  | w :: r => by
    have ih := inV_str s r
    unfold inV at ih ⊢
    rw [List.map_cons, List.any_cons, ih]
    show (decide (w = s) || decide (s ∈ r)) = decide (s ∈ w :: r)
    by_cases e : w = s
    · subst e
      simp
    · rw [decide_eq_false e, Bool.false_or]
      have h2 : (s ∈ w :: r) ↔ s ∈ r := by
        rw [List.mem_cons]
        exact ⟨fun h => h.resolve_left fun z => e z.symm, .inr⟩
      exact (decide_eq_decide.mpr h2).symm
def letters : Str := "abcdefghijklmnopqrstuvwxyz"
theorem tl_abc : tl letters = (List.range 26).map (· + 97) := by decide +kernel
theorem len_letters : letters.length = 26 := by rw [len_tl, tl_abc]; rfl
def sgn (c : Nat) : Str := ⟨#[c]⟩
theorem tl_sgn (c : Nat) : tl (sgn c) = [c] := rfl
theorem at_letter {i : Int} {k : Nat} (e : i = (k : Int)) (hk : k < 26) : atI (letters.cps.toList) i = some (97 + k) := by
  subst e
  refine atI_nat (j := k) ?_
  show (tl letters)[k]? = _
  rw [tl_abc, List.getElem?_map, List.getElem?_range hk, Nat.add_comm]
  rfl
theorem tl_joined (cs : List Nat) : tl (Txt.join "" (cs.map sgn)) = cs := by
  rw [join_eq, tl_join, tl_none, joinL_nil, List.map_map]
  induction cs with
  | nil => rfl
  | cons c r ih =>
    rw [List.map_cons, List.flatten_cons, ih]
    rfl
theorem tl_cut19 (z : Str) : tl (cutS z none (some 19)) = (tl z).take 19 := by
  show ((tl z).drop (HT.sIx (tl z).length 0 none)).take (HT.sIx (tl z).length (tl z).length (some 19) - HT.sIx (tl z).length 0 none) = _
  rw [HT.sIx_none, show HT.sIx (tl z).length (tl z).length (some 19) = min 19 (tl z).length from HT.sIx_nat _ _ 19, List.drop_zero, Nat.sub_zero]
  by_cases h : 19 ≤ (tl z).length
  · rw [Nat.min_eq_left h]
  · rw [Nat.min_eq_right (by omega), List.take_length, List.take_of_length_le (by omega)]
theorem nm_base {z : Str} (h : NmOk z) {k : Nat} (hk : k < 26) : NmOk (cutS z none (some 19) ++ sgn (97 + k)) := by
  have e : tl (cutS z none (some 19) ++ sgn (97 + k)) = (tl z).take 19 ++ [97 + k] := by rw [tl_append, tl_cut19, tl_sgn]
  have hl : ((tl z).take 19).length ≤ 19 := by rw [List.length_take]; omega
  refine ⟨?_, ?_, fun c hc => ?_⟩
  · rw [len_tl, e, List.length_append, List.length_singleton]
    omega
  · rw [len_tl, e, List.length_append, List.length_singleton]
    omega
  · rw [e] at hc
    rcases List.mem_append.mp hc with h1 | h1
    · exact h.low c (List.mem_of_mem_take h1)
    · rw [List.mem_singleton.mp h1]
      omega
theorem base_inj {z : Str} {i j : Nat} (h : z ++ sgn (97 + i) = z ++ sgn (97 + j)) : i = j := by
  have e := congrArg tl h
  rw [tl_append, tl_append, tl_sgn, tl_sgn] at e
  have := List.append_cancel_left e
  have := (List.cons.inj this).1
  omega
theorem four_names {z : Str} {ns : List Str} (hn : ns.length ≤ 3) (h : ∀ j < 4, z ++ sgn (97 + j) ∈ ns) : False := by
  have h1 := pigeon ((List.range 4).map fun j => z ++ sgn (97 + j)) ns ?_ ?_
  · rw [List.length_map, List.length_range] at h1
    omega
  · exact List.Pairwise.map _ (fun a b hab e => hab (base_inj e)) List.nodup_range
  · intro x hx
    obtain ⟨j, hj, rfl⟩ := List.mem_map.mp hx
    exact h j (List.mem_range.mp hj)
section
variable {P : Program} {w : World} {K : PySem.W.Frag} {mg : Str → Option Value} {base : Heap} {T0 c0 : Addr} {tD tL : Tok}
/-! ### _law_name -/
abbrev s_law_name : Stmt := top 41
theorem sc_law_name : FnScope ["_law_cell_here", "_law_names", "_law_draws_here", "_law_letters", "_law_length", "_law_few", "_law_name_here", "_law_k", "_law_base"] ["_law_cell_here", "_law_names"] (defScope s_law_name) := ⟨rfl, rfl, rfl, by decide +kernel, rfl, by decide +kernel, by decide +kernel⟩
def spNm (T0 : Addr) (K : PySem.W.Frag) : Sp := fun us H Q _ => ∃ (c : Int) (l : Addr) (ns : List Str), us = [.int c, .ref l] ∧ SqL K H l (ns.map V.str) ∧ ns.length ≤ 3 ∧ ∀ s H', Ext T0 H H' → NmOk s → s ∉ ns → Q (.str s) H'
theorem ok_law_name (D : At K mg "_law_name" s_law_name) (T : Nm mg tD tL) (G_law_draws : Ok P w K mg base 1 "_law_draws" ["_law_cell_here", "_law_count"] (spDraws T0)) :
    Ok P w K mg base 2 "_law_name" ["_law_cell_here", "_law_names"] (spNm T0 K) := by
  refine D.ok sc_law_name (fun _ _ _ _ _ _ us hl => match us, hl with | [_, _], _ => rfl) (fun vs H Q E h => ?_) (fun f cdv A outer s H us Q E hr h => ?_)
  · obtain ⟨_, _, _, rfl, _⟩ := h
    rfl
  · obtain ⟨c, l, ns, rfl, hl, hn3, q⟩ := h
    refine ⟨_, (pss_cons (ps_set (i := 2) sc_law_name.nd rfl (Or.inr rfl) (pe_own G_law_draws (hr.mono (by decide)) (by rfl) (pa_cons (pv 0) (pa_cons pe_int pa_nil))))
  (pss_cons (ps_set (i := 3) sc_law_name.nd rfl (Or.inr rfl) pe_str)
  (pss_cons (ps_set (i := 4) sc_law_name.nd rfl (Or.inl rfl) (pe_op op_add pe_int (pe_op op_mod (pe_callTy call_int1 (by rfl) T.n_int (by decide +kernel) (pa_cons (pe_ix ix_list (pv 2) pe_int (fun _ _ => rfl)) pa_nil)) pe_int)))
  (C8.pss_cut (ps_if (pt_cmpR op_eq (pe_op op_mod (pe_callTy call_int1 (by rfl) T.n_int (by decide +kernel) (pa_cons (pe_ix ix_list (pv 2) pe_int (fun _ _ => rfl)) pa_nil)) pe_int) pe_int (nomark _))
  (pss_one (ps_set (i := 4) sc_law_name.nd rfl (Or.inl rfl) (pe_op op_add pe_int (pe_op op_mod (pe_op op_fdiv (pe_callTy call_int1 (by rfl) T.n_int (by decide +kernel) (pa_cons (pe_ix ix_list (pv 2) pe_int (fun _ _ => rfl)) pa_nil)) pe_int) pe_int))))
  pss_nil)
  (pss_cons (ps_set (i := 5) sc_law_name.nd rfl (Or.inr rfl) pe_int)
  (C8.pss_cut (ps_if (pt_cmpR op_eq (pe_op op_mod (pe_op op_fdiv (pe_callTy call_int1 (by rfl) T.n_int (by decide +kernel) (pa_cons (pe_ix ix_list (pv 2) pe_int (fun _ _ => rfl)) pa_nil)) pe_int) pe_int) pe_int (nomark _))
  (pss_one (ps_set (i := 5) sc_law_name.nd rfl (Or.inr rfl) pe_int))
  pss_nil)
  (pss_cons (ps_set (i := 6) sc_law_name.nd rfl (Or.inl rfl) (pe_join pe_str (pe_lc (own := [("_law_k", 7)]) (g := _) (tt := _) rfl sc_law_name.nd (pi_range1 (by rfl) T.n_range (pa_cons (pv 4) pa_nil)) (blkOk_by (own := [("_law_k", 7)]) (N := ["_law_cell_here", "_law_names", "_law_draws_here", "_law_letters", "_law_length", "_law_few", "_law_name_here", "_law_k", "_law_base"]) (sc := defScope s_law_name) (by decide +kernel)) (fun _ _ _ _ _ => (pg_name (i := 7) sc_law_name.nd rfl (Or.inl rfl))) (fun _ _ _ _ _ => pts_nil) (fun _ _ _ _ _ => (pe_ix (r := rIxS) ix_str (pv 3) (pe_op op_mod (pe_callTy (T := "int") (r := rInt1) call_int1 (by rfl) T.n_int (by decide +kernel) (pa_cons (pe_op op_add (pe_op op_mul (pe_ix (r := rIxL K) ix_list (pv 2) pe_int (fun _ _ => rfl)) (pe_op op_add (pv 7) pe_int)) (pe_op op_fdiv (pe_ix (r := rIxL K) ix_list (pv 2) (pe_op op_add pe_int (pe_op op_mod (pe_callTy (T := "int") (r := rInt1) call_int1 (by rfl) T.n_int (by decide +kernel) (pa_cons (pv 7) pa_nil)) pe_int)) (fun _ _ => rfl)) (pe_op op_add (pv 7) pe_int))) pa_nil)) (pv 5)) (fun _ _ => rfl))))))
  (pss_cons (ps_set (i := 8) sc_law_name.nd rfl (Or.inl rfl) (pe_slice sl_str (pv 6) po_none (po_some pe_int)))
  (pss_cons (ps_for PassesOwn.never rfl (pi_range1 (by rfl) T.n_range (pa_cons pe_int pa_nil)) (pg_name (i := 7) sc_law_name.nd rfl (Or.inl rfl))
  (pss_one (ps_if (pt_cmpR op_in_seq (pv 6) (pv 1) rfl)
  (pss_one (ps_set (i := 6) sc_law_name.nd rfl (Or.inl rfl) (pe_op op_add_str (pv 8) (pe_ix ix_str (pv 3) (pv 7) (fun _ _ => rfl)))))
  pss_nil)))
  (pss_one (ps_ret (pv 6)))))))))))), ?_⟩
    refine ⟨_, rfl, c, 6, rfl, by decide, fun dp ds H1 x1 nd hdp hds => ?_⟩
    obtain ⟨d0, e0, h00, h01⟩ := drw_at hds (k := 0) (by decide)
    obtain ⟨d1, e1, h10, h11⟩ := drw_at hds (k := 1) (by decide)
    obtain ⟨d2, e2, h20, h21⟩ := drw_at hds (k := 2) (by decide)
    have m0 := Int.emod_nonneg d0 (show (3 : Int) ≠ 0 by decide)
    have m1 := Int.emod_lt_of_pos d0 (show (0 : Int) < 3 by decide)
    refine ⟨_, rfl, dp, _, _, _, rfl, rfl, SqL.of hdp, atI_nat (j := 0) e0, .inl ⟨_, rfl, _, _, rfl, rfl, (show (0 : Int) < 3 by decide), _, _, rfl, rfl, ?_⟩⟩
    refine ⟨fun σ H' => ∃ ln : Nat, σ = [some (.int c), some (.ref l), some (.ref dp), some (.str letters), some (.int ln), none, none, none, none] ∧ H' = H1 ∧ 1 ≤ ln ∧ ln ≤ 20, ?_, ?_⟩
    · refine ⟨_, rfl, dp, _, _, _, rfl, rfl, SqL.of hdp, atI_nat (j := 1) e1, .inl ⟨_, rfl, _, _, rfl, rfl, (show (0 : Int) < 2 by decide), rfl, _, rfl, ite2 (fun _ => ?_) (fun _ => ?_)⟩⟩
      · refine ⟨_, rfl, dp, _, _, _, rfl, rfl, SqL.of hdp, atI_nat (j := 0) e0, .inl ⟨_, rfl, _, _, rfl, rfl, ⟨by decide, by decide⟩, _, _, rfl, rfl, (show (0 : Int) < 20 by decide), _, _, rfl, rfl, ?_⟩⟩
        have z0 := Int.emod_nonneg (d0 / 3) (show (20 : Int) ≠ 0 by decide)
        have z1 := Int.emod_lt_of_pos (d0 / 3) (show (0 : Int) < 20 by decide)
        refine ⟨(1 + d0 / 3 % 20).toNat, ?_, rfl, by omega, by omega⟩
        rw [Int.toNat_of_nonneg (by omega)]
        rfl
      · refine ⟨(1 + d0 % 3).toNat, ?_, rfl, by omega, by omega⟩
        rw [Int.toNat_of_nonneg (by omega)]
        rfl
    rintro σ H2 ⟨ln, rfl, rfl, hln1, hln2⟩
    refine ⟨fun σ H' => ∃ fw : Int, σ = [some (.int c), some (.ref l), some (.ref dp), some (.str letters), some (.int ln), some (.int fw), none, none, none] ∧ H' = H2 ∧ 0 < fw ∧ fw ≤ 26, ?_, ?_⟩
    · refine ⟨_, rfl, dp, _, _, _, rfl, rfl, SqL.of hdp, atI_nat (j := 1) e1, .inl ⟨_, rfl, _, _, rfl, rfl, ⟨by decide, by decide⟩, _, _, rfl, rfl, (show (0 : Int) < 3 by decide), rfl, _, rfl, ite2 (fun _ => ?_) (fun _ => ?_)⟩⟩
      · exact ⟨2, rfl, rfl, by decide, by decide⟩
      · exact ⟨26, rfl, rfl, by decide, by decide⟩
    rintro σ H3 ⟨fw, rfl, rfl, hf1, hf2⟩
    -- the name
    refine ⟨⟨_, rfl⟩, _, rfl, _, rfl, by omega, by omega, fun L nL => ?_⟩
    refine lc_range (lo := 0) (n := ((ln : Nat) : Int).toNat) (fun j H'' => Ext T0 H3 H'' ∧ ∃ cs : List Nat, H'' L = some (.lst (cs.map fun c => V.str (sgn c))) ∧ cs.length = j ∧ ∀ c ∈ cs, 97 ≤ c ∧ c ≤ 122)
      ⟨Ext.new nL, [], upd_same, rfl, (fun r h => by cases h)⟩ ?_ ?_
    · rintro j H'' hj ⟨x4, cs, hL, lc, hc⟩
      have hj20 : j < 20 := by omega
      have z0 := Int.emod_nonneg (0 + (j : Int)) (show (3 : Int) ≠ 0 by decide)
      have z1 := Int.emod_lt_of_pos (0 + (j : Int)) (show (0 : Int) < 3 by decide)
      obtain ⟨d, ed, g0, g1⟩ := drw_at hds (k := 3 + ((0 + (j : Int)) % 3).toNat) (by omega)
      refine ⟨rfl, ?_⟩
      refine ⟨_, rfl, _, rfl, dp, _, _, .int d2, rfl, rfl, SqL.of (x4.lst hdp), atI_nat (j := 2) e2, _, rfl, _, _, rfl, rfl, _, _, rfl, rfl, .inl ⟨by omega, by omega⟩, ?_⟩
      refine ⟨_, rfl, _, rfl, .inl ⟨_, rfl, _, _, rfl, rfl, (show (0 : Int) < 3 by decide), _, _, rfl, rfl, dp, _, _, .int d, rfl, rfl, SqL.of (x4.lst hdp), at_of (j := 3 + ((0 + (j : Int)) % 3).toNat) (by omega) ed, ?_⟩⟩
      refine ⟨_, rfl, _, _, rfl, rfl, _, _, rfl, rfl, ⟨by omega, by omega⟩, _, _, rfl, rfl, .inl ⟨_, rfl, _, rfl, _, _, rfl, rfl, hf1, ?_⟩⟩
      have w0 := Int.emod_nonneg (d2 * (0 + (j : Int) + 3) + d / (0 + (j : Int) + 1)) (show fw ≠ 0 by omega)
      have w1 := Int.emod_lt_of_pos (d2 * (0 + (j : Int) + 3) + d / (0 + (j : Int) + 1)) hf1
      refine ⟨letters, _, _, rfl, rfl, le_line (by rw [len_letters]; decide), at_letter (k := ((d2 * (0 + (j : Int) + 3) + d / (0 + (j : Int) + 1)) % fw).toNat) (by omega) (by omega), _, hL, lt_line (by rw [List.length_map]; omega), x4.put nL, ?_⟩
      refine ⟨cs ++ [97 + ((d2 * (0 + (j : Int) + 3) + d / (0 + (j : Int) + 1)) % fw).toNat], ?_, by rw [List.length_append, lc]; rfl, fun u hu => ?_⟩
      · rw [upd_same, List.map_append]
        rfl
      · rcases List.mem_append.mp hu with h | h
        · exact hc u h
        · rw [List.mem_singleton.mp h]
          omega
    · rintro H4 ⟨x4, cs, hL, lc, hc⟩
      have lc' : cs.length = ln := by omega
      have okn : NmOk (Txt.join "" (cs.map sgn)) := by
        refine ⟨?_, ?_, fun u hu => ?_⟩
        · rw [len_tl, tl_joined]; omega
        · rw [len_tl, tl_joined]; omega
        · rw [tl_joined] at hu
          exact hc u hu
      refine ⟨_, L, cs.map sgn, rfl, rfl, .inl (SqL.of (by rw [hL, List.map_map]; rfl)), ?_, ?_⟩
      · rw [len_none, Nat.mul_zero, Nat.add_zero, List.map_map]
        have := sum_le (fun c => (sgn c).length) 1 cs fun c _ => by rw [len_of (tl_sgn c)]; exact Nat.le_refl _
        exact le_line (Nat.le_trans this (by omega))
      generalize Txt.join "" (cs.map sgn) = nm at okn
      refine ⟨_, rfl, 19, rfl, nm, rfl, le_line (Nat.le_trans okn.le (by decide)), ?_⟩
      refine ⟨4, rfl, by decide, by decide, for_range (lo := 0) (n := (4 : Int).toNat) (fun i σ H' => ∃ (z : Str) (y7 : Option V), σ = [some (.int c), some (.ref l), some (.ref dp), some (.str letters), some (.int ln), some (.int fw), some (.str z), y7, some (.str (cutS nm none (some 19)))] ∧ H' = H4 ∧ NmOk z ∧ (z ∈ ns → ∀ j < i, cutS nm none (some 19) ++ sgn (97 + j) ∈ ns))
        ⟨nm, none, rfl, rfl, okn, fun _ j hj => by omega⟩ ?_ ?_⟩
      · rintro i σ H' hi ⟨z, y7, rfl, rfl, okz, hz⟩
        have hi4 : i < 4 := hi
        have xx := x1.trans x4
        refine ⟨_, rfl, _, rfl, l, _, rfl, .inl (xx.seqL hl), rfl, flat_strs _, _, rfl, ?_⟩
        rw [inV_str]
        refine ite2 (fun e => ?_) (fun e => ?_)
        · have e := of_decide_eq_true e
          have okb := nm_base okn (k := i) (by omega)
          refine ⟨_, rfl, _, rfl, _, rfl, letters, _, _, rfl, rfl, le_line (by rw [len_letters]; decide), at_letter (k := i) (by omega) (by omega), _, _, rfl, rfl, le_line (by have := okb.le; rw [len_tl, tl_append, List.length_append, ← len_tl, ← len_tl] at this; exact Nat.le_trans this (by decide)), ?_⟩
          refine ⟨_, _, rfl, rfl, okb, fun e2 j hj => ?_⟩
          by_cases hji : j = i
          · subst hji
            exact e2
          · exact hz e j (by omega)
        · exact ⟨z, _, rfl, rfl, okz, fun h => absurd (decide_eq_true h) e⟩
      · rintro σ H' ⟨z, y7, rfl, rfl, okz, hz⟩
        refine ⟨_, rfl, q _ _ (x1.trans x4) okz fun hm => four_names hn3 (hz hm)⟩
end
end Bk

namespace Bk
open PySem PySem.Spec PyProof.Rows L2 GxR TL
theorem mk_lt {n d : Int} (h : n < d) (hd : 0 < d) : (mkR n d).1 < (mkR n d).2 := by
  obtain ⟨e1, e2⟩ := mk_mul (n := n) (d := d)
  refine Int.lt_of_mul_lt_mul_right (a := (Int.gcd n d : Int)) ?_ (Int.le_of_lt (mk_gpos hd))
  rw [e1, e2]
  exact h
section
variable {P : Program} {w : World} {K : PySem.W.Frag} {mg : Str → Option Value} {base : Heap} {T0 c0 : Addr} {tD tL : Tok}
/-! ### _law_book -/
abbrev s_law_book : Stmt := top 42
theorem sc_law_book : FnScope ["_law_script", "_law_draws_here", "_law_count", "_law_names", "_law_games", "_law_k", "_law_cell_here", "_law_name_here", "_law_game_here", "_law_places", "_law_at", "_law_discount_here"] ["_law_script"] (defScope s_law_book) := ⟨rfl, rfl, rfl, by decide +kernel, rfl, by decide +kernel, by decide +kernel⟩
def spLB (T0 : Addr) (K : PySem.W.Frag) : Sp := fun us H Q _ => ∃ (a : Addr) (ns : List Int), us = [.ref a] ∧ SqL K H a (ns.map V.int) ∧ ∀ v b H', Ext T0 H H' → Dt K H' v (encB b) → BOk b → Q v H'
theorem ok_law_book (D : At K mg "_law_book" s_law_book) (T : Nm mg tD tL) (G_law_cell : Ok P w K mg base 1 "_law_cell" ["_law_script", "_law_k"] (spCell K)) (G_law_draws : Ok P w K mg base 1 "_law_draws" ["_law_cell_here", "_law_count"] (spDraws T0)) (G_law_low : Ok P w K mg base 2 "_law_low" ["_law_n", "_law_d"] (spLow T0 K)) (G_law_discount : Ok P w K mg base 3 "_law_discount" ["_law_draw"] (spDisc T0 K)) (G_law_name : Ok P w K mg base 2 "_law_name" ["_law_cell_here", "_law_names"] (spNm T0 K)) (G_law_game : Ok P w K mg base 4 "_law_game" ["_law_cell_here", "_law_most"] (spGame T0 K)) (G_law_sparse : Ok P w K mg base 4 "_law_sparse" ["_law_script", "_law_size"] (spSparse T0 K)) :
    Ok P w K mg base 5 "_law_book" ["_law_script"] (spLB T0 K) := by
  refine D.ok sc_law_book (fun _ _ _ _ _ _ us hl => match us, hl with | [_], _ => rfl) (fun vs H Q E h => ?_) (fun f cdv A outer s H us Q E hr h => ?_)
  · obtain ⟨_, _, rfl, _⟩ := h
    rfl
  · obtain ⟨a, ns, rfl, hS, q⟩ := h
    refine ⟨_, (pss_cons (ps_set (i := 1) sc_law_book.nd rfl (Or.inl rfl) (pe_own G_law_draws (hr.mono (by decide)) (by rfl) (pa_cons (pe_own G_law_cell (hr.mono (by decide)) (by rfl) (pa_cons (pv 0) (pa_cons pe_int pa_nil))) (pa_cons pe_int pa_nil))))
  (C8.pss_cut (ps_set (i := 2) sc_law_book.nd rfl (Or.inl rfl) (pe_op op_mod (pe_callTy call_int1 (by rfl) T.n_int (by decide +kernel) (pa_cons (pe_ix ix_list (pv 1) pe_int (fun _ _ => rfl)) pa_nil)) pe_int))
  (pss_cons (ps_set (i := 3) sc_law_book.nd rfl (Or.inl rfl) (pe_lst pa_nil))
  (pss_cons (ps_set (i := 4) sc_law_book.nd rfl (Or.inl rfl) (pe_lst pa_nil))
  (pss_cons (ps_for PassesOwn.never rfl (pi_range1 (by rfl) T.n_range (pa_cons (pv 2) pa_nil)) (pg_name (i := 5) sc_law_book.nd rfl (Or.inl rfl))
  (pss_cons (ps_set (i := 6) sc_law_book.nd rfl (Or.inl rfl) (pe_own G_law_cell (hr.mono (by decide)) (by rfl) (pa_cons (pv 0) (pa_cons (pe_op op_add pe_int (pv 5)) pa_nil))))
  (pss_cons (ps_set (i := 7) sc_law_book.nd rfl (Or.inl rfl) (pe_own G_law_name (hr.mono (by decide)) (by rfl) (pa_cons (pe_op op_add (pv 6) pe_int) (pa_cons (pv 3) pa_nil))))
  (pss_cons (ps_set (i := 8) sc_law_book.nd rfl (Or.inl rfl) (pe_own G_law_game (hr.mono (by decide)) (by rfl) (pa_cons (pv 6) (pa_cons pe_int pa_nil))))
  (C8.pss_cut (ps_if (PW.pt (pw_and (pt_cmpR op_eq (pv 5) pe_int (nomark _)) (pw_and1 (pt_cmpR op_eq (pe_op op_mod (pe_callTy call_int1 (by rfl) T.n_int (by decide +kernel) (pa_cons (pe_ix ix_list (pv 1) pe_int (fun _ _ => rfl)) pa_nil)) pe_int) pe_int (nomark _)))))
  (pss_one (ps_set (i := 8) sc_law_book.nd rfl (Or.inl rfl) (pe_own G_law_sparse (hr.mono (by decide)) (by rfl) (pa_cons (pv 0) (pa_cons (pe_op op_add pe_int (pe_op op_mod (pe_callTy call_int1 (by rfl) T.n_int (by decide +kernel) (pa_cons (pe_ix ix_list (pv 1) pe_int (fun _ _ => rfl)) pa_nil)) pe_int)) pa_nil)))))
  pss_nil)
  (pss_cons (ps_expr (pe_bm PySem.F.plainAttrs_list PySem.F.slot_list_append PySem.F.type_list_append mt_append (pv 3) (pa_cons (pv 7) pa_nil)))
  (pss_one (ps_expr (pe_bm PySem.F.plainAttrs_list PySem.F.slot_list_append PySem.F.type_list_append mt_append (pv 4) (pa_cons (pe_tup (pa_cons (pv 7) (pa_cons (pv 8) pa_nil))) pa_nil))))))))))
  (pss_cons (ps_set (i := 9) sc_law_book.nd rfl (Or.inl rfl) (pe_lst pa_nil))
  (pss_cons (ps_for PassesOwn.never rfl (pi_range1 (by rfl) T.n_range (pa_cons (pe_op op_mod (pe_callTy call_int1 (by rfl) T.n_int (by decide +kernel) (pa_cons (pe_ix ix_list (pv 1) pe_int (fun _ _ => rfl)) pa_nil)) pe_int) pa_nil)) (pg_name (i := 5) sc_law_book.nd rfl (Or.inl rfl))
  (pss_one (ps_if (pt_cmpR op_gt (pv 2) pe_int (nomark _))
  (pss_cons (ps_set (i := 10) sc_law_book.nd rfl (Or.inl rfl) (pe_op op_mod (pe_callTy call_int1 (by rfl) T.n_int (by decide +kernel) (pa_cons (pe_ix ix_list (pv 1) (pe_op op_add pe_int (pv 5)) (fun _ _ => rfl)) pa_nil)) (pv 2)))
  (pss_one (ps_expr (pe_bm PySem.F.plainAttrs_list PySem.F.slot_list_append PySem.F.type_list_append mt_append (pv 9) (pa_cons (pe_tup (pa_cons (pe_ix ix_list (pv 3) (pv 10) (fun _ _ => rfl)) (pa_cons (pe_op op_mod (pe_callTy call_int1 (by rfl) T.n_int (by decide +kernel) (pa_cons (pe_ix ix_list (pv 1) (pe_op op_add pe_int (pv 5)) (fun _ _ => rfl)) pa_nil)) (pe_callB call_len_seq (by rfl) T.n_len PySem.boot_len (pa_cons (pe_ix ix_tup (pe_ix ix_tup (pe_ix ix_list (pv 4) (pv 10) (fun _ _ => rfl)) pe_int (fun _ _ => rfl)) pe_int (fun _ _ => rfl)) pa_nil))) pa_nil))) pa_nil)))))
  pss_nil)))
  (pss_cons (ps_set (i := 11) sc_law_book.nd rfl (Or.inl rfl) (pe_own G_law_discount (hr.mono (by decide)) (by rfl) (pa_cons (pe_ix ix_list (pv 1) pe_int (fun _ _ => rfl)) pa_nil)))
  (C8.pss_cut (ps_if (pt_cmpR op_eq (pe_op op_mod (pe_callTy call_int1 (by rfl) T.n_int (by decide +kernel) (pa_cons (pe_ix ix_list (pv 1) pe_int (fun _ _ => rfl)) pa_nil)) pe_int) pe_int (nomark _))
  (pss_one (ps_set (i := 11) sc_law_book.nd rfl (Or.inl rfl) (pe_own G_law_low (hr.mono (by decide)) (by rfl) (pa_cons (pe_op op_add (pe_op op_pow pe_int pe_int) (pe_callTy call_int1 (by rfl) T.n_int (by decide +kernel) (pa_cons (pe_ix ix_list (pv 1) pe_int (fun _ _ => rfl)) pa_nil))) (pa_cons (pe_op op_sub (pe_op op_sub (pe_op op_pow pe_int pe_int) pe_int) (pe_callTy call_int1 (by rfl) T.n_int (by decide +kernel) (pa_cons (pe_ix ix_list (pv 1) pe_int (fun _ _ => rfl)) pa_nil))) pa_nil)))))
  pss_nil)
  (pss_one (ps_ret (pe_tup (pa_cons (pv 11) (pa_cons (pe_callTy call_tuple_of (by rfl) T.n_tuple (by decide +kernel) (pa_cons (pv 4) pa_nil)) (pa_cons (pe_callTy call_tuple_of (by rfl) T.n_tuple (by decide +kernel) (pa_cons (pv 9) pa_nil)) pa_nil))))))))))))))), ?_⟩
    refine ⟨_, rfl, a, ns, 0, rfl, hS, fun z => ⟨z, 16, rfl, by decide, fun dp ds H1 x1 nd hdp hds => ?_⟩⟩
    obtain ⟨d0, e0, h00, h01⟩ := drw_at hds (k := 0) (by decide)
    obtain ⟨d1, e1, _, _⟩ := drw_at hds (k := 1) (by decide)
    obtain ⟨d2, e2, _, _⟩ := drw_at hds (k := 2) (by decide)
    obtain ⟨d3, e3, _, _⟩ := drw_at hds (k := 3) (by decide)
    obtain ⟨d12, e12, _, _⟩ := drw_at hds (k := 12) (by decide)
    obtain ⟨d13, e13, _, _⟩ := drw_at hds (k := 13) (by decide)
    obtain ⟨d14, e14, f140, f141⟩ := drw_at hds (k := 14) (by decide)
    obtain ⟨d15, e15, f150, f151⟩ := drw_at hds (k := 15) (by decide)
    have m0 := Int.emod_nonneg d0 (show (4 : Int) ≠ 0 by decide)
    have m1 := Int.emod_lt_of_pos d0 (show (0 : Int) < 4 by decide)
    obtain ⟨cnt, ecnt⟩ : ∃ cnt : Nat, d0 % 4 = (cnt : Int) := ⟨(d0 % 4).toNat, by omega⟩
    refine ⟨fun σ H' => σ = [some (.ref a), some (.ref dp), some (.int cnt), none, none, none, none, none, none, none, none, none] ∧ H' = H1, ?_, ?_⟩
    · refine ⟨_, rfl, dp, _, _, _, rfl, rfl, SqL.of hdp, atI_nat (j := 0) e0, .inl ⟨_, rfl, _, _, rfl, rfl, (show (0 : Int) < 4 by decide), ?_, rfl⟩⟩
      show [some (V.ref a), some (.ref dp), some (.int (d0 % 4)), none, none, none, none, none, none, none, none, none] = _
      rw [ecnt]
    rintro σ H1' ⟨rfl, e⟩
    subst e
    have hcnt : cnt ≤ 3 := by omega
    refine ⟨sz0, fun nl nnl => ⟨sz0, fun gl ngl => ?_⟩⟩
    have y1 := Ext.new (T := T0) (o := .lst []) nnl
    have y2 := Ext.new (T := T0) (o := .lst []) ngl
    have ngl0 := y1.free gl ngl
    have nne : nl ≠ gl := fun e => by rw [← e, upd_same] at ngl; cases ngl
    have hS1 := x1.seqL hS
    refine ⟨_, rfl, _, rfl, by omega, by omega, for_range (lo := 0) (n := ((cnt : Nat) : Int).toNat) (fun i σ H' => ∃ (y5 y6 y7 y8 : Option V) (gvs : List V) (gs : List (Str × Gm)),
        σ = [some (.ref a), some (.ref dp), some (.int cnt), some (.ref nl), some (.ref gl), y5, y6, y7, y8, none, none, none] ∧ Ext T0 H1' H' ∧ H' nl = some (.lst ((gs.map (·.1)).map V.str)) ∧ H' gl = some (.lst gvs) ∧ DtAll K H' gvs (gs.map encNG) ∧ gs.length = i ∧ (gs.map (·.1)).Nodup ∧ ∀ g ∈ gs, NmOk g.1 ∧ GmOk g.2)
      ⟨none, none, none, none, [], [], rfl, y1.trans y2, y2.lst upd_same, upd_same, .nil, rfl, .nil, (fun g h => by cases h)⟩ ?_ ?_⟩
    · rintro i σ H' hi ⟨y5, y6, y7, y8, gvs, gs, rfl, x0, hnl, hgl, dg, lgs, nd', okg⟩
      have hi3 : i < cnt := by omega
      refine ⟨_, rfl, _, rfl, _, _, rfl, rfl, a, ns, 1 + i, ?_, x0.seqL hS1, fun z => ?_⟩
      · show [V.ref a, V.int (1 + (0 + (i : Int)))] = _
        rw [show (1 + (0 + (i : Int))) = ((1 + i : Nat) : Int) by omega]
      refine ⟨_, rfl, _, _, rfl, rfl, _, rfl, _, nl, gs.map (·.1), rfl, SqL.of hnl, by rw [List.length_map]; omega, fun nm H2 x2 oknm fresh => ?_⟩
      refine ⟨_, rfl, z, rfl, fun v H3 g x3 d3' okg3 hg16 => ?_⟩
      refine ⟨fun σ H'' => ∃ (v : V) (g : Gm), σ = [some (.ref a), some (.ref dp), some (.int cnt), some (.ref nl), some (.ref gl), some (.int (0 + (i : Int))), some (.int z), some (.str nm), some v, none, none, none] ∧ Ext T0 H' H'' ∧ Dt K H'' v (encG g) ∧ GmOk g, ?_, ?_⟩
      · refine ⟨_, rfl, rfl, _, rfl, ite2 (fun _ => ?_) (fun _ => ?_)⟩
        · refine ⟨_, rfl, dp, _, _, _, rfl, rfl, SqL.of ((x2.trans x3).lst (x0.lst hdp)), atI_nat (j := 1) e1, .inl ⟨_, rfl, _, _, rfl, rfl, (show (0 : Int) < 8 by decide), rfl, _, rfl, ite2 (fun _ => ?_) (fun _ => ?_)⟩⟩
          · refine ⟨_, rfl, _, rfl, dp, _, _, _, rfl, rfl, SqL.of ((x2.trans x3).lst (x0.lst hdp)), atI_nat (j := 2) e2, .inl ⟨_, rfl, _, _, rfl, rfl, (show (0 : Int) < 16 by decide), _, _, rfl, rfl, ?_⟩⟩
            have z0 := Int.emod_nonneg d2 (show (16 : Int) ≠ 0 by decide)
            have z1 := Int.emod_lt_of_pos d2 (show (0 : Int) < 16 by decide)
            refine ⟨a, ns, (1 + d2 % 16).toNat, ?_, (x2.trans x3).seqL (x0.seqL hS1), by omega, by omega, fun v H4 g x4 d4 okg4 hg => ?_⟩
            · rw [Int.toNat_of_nonneg (by omega)]
              rfl
            · exact ⟨v, g, rfl, (x2.trans x3).trans x4, d4, okg4⟩
          · exact ⟨v, g, rfl, x2.trans x3, d3', okg3⟩
        · exact ⟨v, g, rfl, x2.trans x3, d3', okg3⟩
      clear d3' okg3 hg16 x3 x2 v g
      rintro σ H4 ⟨v, g, rfl, x4, d4, okg4⟩
      have hnl4 := x4.lst hnl
      have hgl4 := x4.lst hgl
      refine ⟨_, rfl, .inl ⟨rfl, _, SqL.of hnl4⟩, _, rfl, nl, _, _, rfl, rfl, hnl4, lt_line (by rw [List.length_map, List.length_map]; omega), ?_⟩
      have w4 := x0.trans x4
      have w5 := w4.put (o := .lst ((gs.map (·.1)).map V.str ++ [.str nm])) nnl
      have tx5 := TupX.lst (o := .lst ((gs.map (·.1)).map V.str ++ [.str nm])) hnl4
      have hgl5 : upd H4 nl (.lst ((gs.map (·.1)).map V.str ++ [.str nm])) gl = some (.lst gvs) := by rw [upd_ne nne.symm]; exact hgl4
      refine ⟨_, rfl, .inl ⟨rfl, _, SqL.of hgl5⟩, _, rfl, _, rfl, sz2, fun t nt => ?_⟩
      have n6 := Ext.new (T := T0) (o := .tup [.str nm, v]) nt
      have d6 : Dt K (upd (upd H4 nl (.lst ((gs.map (·.1)).map V.str ++ [.str nm]))) t (.tup [.str nm, v])) (.ref t) (encNG (nm, g)) := .newT nt (.cons (.str _) (.cons (d4.tx tx5) .nil))
      have hgl6 := n6.lst hgl5
      have lgv := dg.length
      rw [List.length_map] at lgv
      refine ⟨gl, gvs, _, rfl, rfl, hgl6, lt_line (by omega), ?_⟩
      have tx7 := TupX.lst (o := .lst (gvs ++ [.ref t])) hgl6
      have hnl6 := n6.lst (show upd H4 nl (.lst ((gs.map (·.1)).map V.str ++ [.str nm])) nl = some (.lst ((gs.map (·.1)).map V.str ++ [.str nm])) from upd_same)
      refine ⟨_, _, _, _, gvs ++ [.ref t], gs ++ [(nm, g)], rfl, (w5.trans n6).put ngl0, ?_, upd_same, ?_, by rw [List.length_append, lgs]; rfl, ?_, fun g' hg' => ?_⟩
      · rw [upd_ne nne, hnl6, List.map_append, List.map_append]
        rfl
      · rw [List.map_append]
        exact (((dg.ext x4).tx tx5).ext n6 |>.tx tx7).snoc (d6.tx tx7)
      · rw [List.map_append]
        refine List.nodup_append.mpr ⟨nd', by simp, fun x hx y hy e => ?_⟩
        rw [List.mem_singleton.mp hy] at e
        have e : x = nm := e
        subst e
        exact fresh hx
      · rcases List.mem_append.mp hg' with h | h
        · exact okg g' h
        · rw [List.mem_singleton.mp h]
          exact ⟨oknm, okg4⟩
    · rintro σ H' ⟨y5, y6, y7, y8, gvs, gs, rfl, x0, hnl, hgl, dg, lgs, nd', okg⟩
      have lgs' : gs.length = cnt := by omega
      refine ⟨sz0, fun pl npl => ?_⟩
      have npl0 := x0.free pl npl
      have y3 := Ext.new (T := T0) (o := .lst []) npl
      have hdp1 := y3.lst (x0.lst hdp)
      have p0 := Int.emod_nonneg d3 (show (5 : Int) ≠ 0 by decide)
      have p1 := Int.emod_lt_of_pos d3 (show (0 : Int) < 5 by decide)
      refine ⟨_, rfl, dp, _, _, _, rfl, rfl, SqL.of hdp1, atI_nat (j := 3) e3, .inl ⟨_, rfl, _, _, rfl, rfl, (show (0 : Int) < 5 by decide), _, rfl, by omega, by omega, ?_⟩⟩
      refine for_range (lo := 0) (n := (d3 % 5).toNat) (fun i σ H'' => ∃ (y5 y10 : Option V) (pvs : List V) (ps : List (Str × Nat)),
        σ = [some (.ref a), some (.ref dp), some (.int cnt), some (.ref nl), some (.ref gl), y5, y6, y7, y8, some (.ref pl), y10, none] ∧ Ext T0 H' H'' ∧ H'' pl = some (.lst pvs) ∧ DtAll K H'' pvs (ps.map encP) ∧ ps.length ≤ i ∧ ∀ p ∈ ps, ∃ g, (p.1, g) ∈ gs ∧ p.2 < g.length)
        ⟨y5, none, [], [], rfl, y3, upd_same, .nil, Nat.le_refl _, (fun g h => by cases h)⟩ ?_ ?_
      · rintro i σ H'' hi ⟨y5, y10, pvs, ps, rfl, x5, hpl, dps, lps, okp⟩
        have hi4 : i < 4 := by omega
        refine ⟨_, rfl, _, _, rfl, rfl, _, rfl, ite2 (fun e => ?_) (fun e => ?_)⟩
        · have e := of_decide_eq_true e
          obtain ⟨d4, e4, _, _⟩ := drw_at hds (k := 4 + i) (by omega)
          obtain ⟨d8, e8, _, _⟩ := drw_at hds (k := 8 + i) (by omega)
          have hdp2 := x5.lst (x0.lst hdp)
          refine ⟨_, rfl, _, rfl, _, _, rfl, rfl, dp, _, _, _, rfl, rfl, SqL.of hdp2, at_of (j := 4 + i) (by omega) e4, .inl ⟨_, rfl, _, rfl, _, _, rfl, rfl, e, ?_⟩⟩
          have u0 := Int.emod_nonneg d4 (show (cnt : Int) ≠ 0 by omega)
          have u1 := Int.emod_lt_of_pos d4 e
          obtain ⟨t, et⟩ : ∃ t : Nat, d4 % (cnt : Int) = (t : Int) := ⟨(d4 % (cnt : Int)).toNat, by omega⟩
          have ht : t < gs.length := by omega
          obtain ⟨g, eg⟩ : ∃ g, gs[t]? = some g := ⟨_, List.getElem?_eq_getElem ht⟩
          have hg := List.mem_of_getElem? eg
          have en : ((gs.map (·.1)).map V.str)[t]? = some (.str g.1) := by rw [List.getElem?_map, List.getElem?_map, eg]; rfl
          obtain ⟨gv, egv, dgv⟩ := (dg.ext x5).get (show (gs.map encNG)[t]? = some (encNG g) by rw [List.getElem?_map, eg]; rfl)
          obtain ⟨xa, z1, z2, rfl, sxa, dz1, dz2⟩ := Dt.two dgv
          obtain ⟨xb, r1, r2, rfl, sxb, dr1, dr2⟩ := Dt.two dz2
          obtain ⟨ra, rvs, rfl, sra, drs⟩ := dr1.tup_inv
          have lr := drs.length
          rw [List.length_map] at lr
          have gok := (okg g hg).2
          refine ⟨_, rfl, .inl ⟨rfl, _, SqL.of hpl⟩, _, rfl, _, rfl, nl, _, _, _, rfl, rfl, SqL.of (x5.lst hnl), at_of (j := t) et en, ?_⟩
          refine ⟨_, rfl, _, rfl, _, _, rfl, rfl, dp, _, _, _, rfl, rfl, SqL.of hdp2, at_of (j := 8 + i) (by omega) e8, .inl ⟨_, rfl, ?_⟩⟩
          refine ⟨_, rfl, _, rfl, gl, _, _, _, rfl, rfl, SqL.of (x5.lst hgl), at_of (j := t) et egv, xa, _, _, _, rfl, rfl, sxa, at1, xb, _, _, _, rfl, rfl, sxb, at0, ra, _, rfl, .inr sra, ?_⟩
          rw [lr]
          have glen := gok.pos
          have v0 := Int.emod_nonneg d8 (show (g.2.length : Int) ≠ 0 by omega)
          have v1 := Int.emod_lt_of_pos d8 (show (0 : Int) < (g.2.length : Int) by omega)
          refine ⟨_, _, rfl, rfl, (show (0 : Int) < (g.2.length : Int) by omega), ?_⟩
          obtain ⟨k, ek⟩ : ∃ k : Nat, d8 % (g.2.length : Int) = (k : Int) := ⟨(d8 % (g.2.length : Int)).toNat, by omega⟩
          refine ⟨sz2, fun tt nt => ?_⟩
          have n6 := Ext.new (T := T0) (o := .tup [.str g.1, .int (d8 % (g.2.length : Int))]) nt
          have d6 : Dt K (upd H'' tt (.tup [.str g.1, .int (d8 % (g.2.length : Int))])) (.ref tt) (encP (g.1, k)) := .newT nt (.cons (.str _) (.cons (by rw [ek]; exact .int _) .nil))
          have hpl6 := n6.lst hpl
          have lpv := dps.length
          rw [List.length_map] at lpv
          refine ⟨pl, pvs, _, rfl, rfl, hpl6, lt_line (by omega), ?_⟩
          have tx7 := TupX.lst (o := .lst (pvs ++ [.ref tt])) hpl6
          refine ⟨_, _, pvs ++ [.ref tt], ps ++ [(g.1, k)], rfl, (x5.trans n6).put npl, upd_same, ?_, by rw [List.length_append, List.length_singleton]; omega, fun p hp => ?_⟩
          · rw [List.map_append]
            exact ((dps.ext n6).tx tx7).snoc (d6.tx tx7)
          · rcases List.mem_append.mp hp with h | h
            · exact okp p h
            · rw [List.mem_singleton.mp h]
              exact ⟨g.2, hg, by omega⟩
        · exact ⟨_, _, pvs, ps, rfl, x5, hpl, dps, by omega, okp⟩
      · rintro σ H'' ⟨y5, y10, pvs, ps, rfl, x5, hpl, dps, lps, okp⟩
        have lps4 : ps.length ≤ 4 := by omega
        refine ⟨_, rfl, dp, _, _, _, rfl, rfl, SqL.of (x5.lst (x0.lst hdp)), atI_nat (j := 12) e12, d12, rfl, fun n d h0 h1 h2 v H3 x3 dv => ?_⟩
        refine ⟨fun σ H4 => ∃ (v : V) (r : Rt), σ = [some (.ref a), some (.ref dp), some (.int cnt), some (.ref nl), some (.ref gl), y5, y6, y7, y8, some (.ref pl), y10, some v] ∧ Ext T0 H'' H4 ∧ Dt K H4 v (encR r) ∧ ROk r ∧ 0 ≤ r.1 ∧ r.1 < r.2, ?_, ?_⟩
        · have hdp3 := x3.lst (x5.lst (x0.lst hdp))
          refine ⟨_, rfl, dp, _, _, _, rfl, rfl, SqL.of hdp3, atI_nat (j := 13) e13, .inl ⟨_, rfl, _, _, rfl, rfl, (show (0 : Int) < 8 by decide), rfl, _, rfl, ite2 (fun _ => ?_) (fun _ => ?_)⟩⟩
          · refine ⟨_, _, rfl, rfl, ⟨by decide, by decide, by decide⟩, _, rfl, dp, _, _, _, rfl, rfl, SqL.of hdp3, atI_nat (j := 14) e14, .inl ⟨_, rfl, _, _, rfl, rfl, _, _, rfl, rfl, ⟨by decide, by decide, by decide⟩, _, _, rfl, rfl, _, rfl, dp, _, _, _, rfl, rfl, SqL.of hdp3, atI_nat (j := 15) e15, .inl ⟨_, rfl, _, _, rfl, rfl, ?_⟩⟩⟩
            have b1 : ((10 : Int) ^ 59 + d14) < 10 ^ 60 - 1 - d15 := by omega
            have b0 : (0 : Int) ≤ 10 ^ 59 + d14 := by omega
            have b2 : (10 : Int) ^ 60 - 1 - d15 < 2 ^ 300 := by omega
            refine ⟨_, _, rfl, Int.lt_of_le_of_lt b0 b1, b2, fun v H4 x4 d4 => ⟨v, mkR (10 ^ 59 + d14) (10 ^ 60 - 1 - d15), rfl, x3.trans x4, d4, mk_ok (Int.lt_of_le_of_lt b0 b1) (by omega) (by omega), mk_num_nonneg b0, mk_lt b1 (Int.lt_of_le_of_lt b0 b1)⟩⟩
          · exact ⟨v, mkR n d, rfl, x3, dv, mk_ok (by omega) (Nat.lt_of_le_of_lt (show n.natAbs ≤ 10 by omega) (by decide)) (Nat.lt_of_le_of_lt (show d.natAbs ≤ 10 by omega) (by decide)), mk_num_nonneg h0, mk_lt h1 (by omega)⟩
        clear dv x3 v
        rintro σ H3 ⟨v, r, rfl, x3, dv, okr, r0, r1⟩
        refine ⟨_, rfl, _, rfl, gl, gvs, rfl, .inl ⟨SqL.of (x3.lst (x5.lst hgl)), fun t1 nt1 => ?_⟩⟩
        have n1 := Ext.new (T := T0) (o := .tup gvs) nt1
        have d1 : Dt K (upd H3 t1 (.tup gvs)) (.ref t1) (.tuple (gs.map encNG)) := .newT nt1 ((dg.ext x5).ext x3)
        refine ⟨_, rfl, pl, pvs, rfl, .inl ⟨SqL.of (n1.lst (x3.lst hpl)), fun t2 nt2 => ?_⟩⟩
        have n2 := Ext.new (T := T0) (o := .tup pvs) nt2
        have d2 : Dt K (upd (upd H3 t1 (.tup gvs)) t2 (.tup pvs)) (.ref t2) (.tuple (ps.map encP)) := .newT nt2 ((dps.ext x3).ext n1)
        refine ⟨sz3, fun t3 nt3 => ?_⟩
        have n3 := Ext.new (T := T0) (o := .tup [v, .ref t1, .ref t2]) nt3
        refine q _ ⟨r, gs, ps⟩ _ ((((x1.trans x0).trans x5).trans x3).trans ((n1.trans n2).trans n3)) ?_ ⟨okr, r0, r1, (show gs.length ≤ 10 by omega), nd', fun g hg => (okg g hg).1, fun g hg => (okg g hg).2, (show ps.length ≤ 10 by omega), okp⟩
        exact .newT nt3 (.cons ((dv.ext n1).ext n2) (.cons (d1.ext n2) (.cons d2 .nil)))
end
end Bk

namespace Bk
open PySem PySem.Spec PyProof.Rows L2 GxR TL
/-- data of numbers, texts and tuples, no deeper than n -/
inductive DepLe : Nat → PyData → Prop where
  | int {n : Nat} (i : Int) : DepLe (n + 1) (.int i)
  | str {n : Nat} (x : Str) : DepLe (n + 1) (.str x)
  | tup {n : Nat} {ds : List PyData} (hl : ds.length ≤ 1000) (h : ∀ d ∈ ds, DepLe n d) : DepLe (n + 1) (.tuple ds)
theorem dep_r (n : Nat) (r : Rt) : DepLe (n + 2) (encR r) := .tup (by simp) fun d hd => by
  rcases List.mem_cons.mp hd with rfl | hd
  · exact .int _
  · rw [List.mem_singleton.mp hd]
    exact .int _
theorem dep_t (n : Nat) (t : Nat × Rt) : DepLe (n + 3) (encT t) := .tup (by simp) fun d hd => by
  rcases List.mem_cons.mp hd with rfl | hd
  · exact .int _
  · rw [List.mem_singleton.mp hd]
    exact dep_r _ _
theorem dep_row (n : Nat) {r : Row} (h : r.length ≤ 20) : DepLe (n + 4) (encRow r) := .tup (by rw [List.length_map]; omega) fun d hd => by
  obtain ⟨t, _, rfl⟩ := List.mem_map.mp hd
  exact dep_t _ _
theorem dep_g (n : Nat) {g : Gm} (h : GmOk g) : DepLe (n + 6) (encG g) := .tup (by simp) fun d hd => by
  have hl := h.len
  rcases List.mem_cons.mp hd with rfl | hd
  · refine .tup (by rw [List.length_map]; omega) fun d hd => ?_
    obtain ⟨t, _, rfl⟩ := List.mem_map.mp hd
    exact dep_r _ _
  · rw [List.mem_singleton.mp hd]
    refine .tup (by rw [List.length_map]; omega) fun d hd => ?_
    obtain ⟨t, ht, rfl⟩ := List.mem_map.mp hd
    exact dep_row _ (h.row t ht).len
theorem dep_b {b : Book} (h : BOk b) : DepLe 9 (encB b) := .tup (by simp) fun d hd => by
  have hl := h.glen
  have hp := h.plen
  rcases List.mem_cons.mp hd with rfl | hd
  · exact dep_r _ _
  rcases List.mem_cons.mp hd with rfl | hd
  · refine .tup (by rw [List.length_map]; omega) fun d hd => ?_
    obtain ⟨g, hg, rfl⟩ := List.mem_map.mp hd
    refine .tup (by simp) fun d hd => ?_
    rcases List.mem_cons.mp hd with rfl | hd
    · exact .str _
    · rw [List.mem_singleton.mp hd]
      exact dep_g _ (h.gm g hg)
  · rw [List.mem_singleton.mp hd]
    refine .tup (by rw [List.length_map]; omega) fun d hd => ?_
    obtain ⟨p, _, rfl⟩ := List.mem_map.mp hd
    refine .tup (by simp) fun d hd => ?_
    rcases List.mem_cons.mp hd with rfl | hd
    · exact .str _
    · rw [List.mem_singleton.mp hd]
      exact .int _
theorem dep_c {b : Book} (h : BOk b) : DepLe 9 (encC b) := .tup (by rw [List.length_map]; have := h.plen; omega) fun d hd => by
  obtain ⟨p, hp, rfl⟩ := List.mem_map.mp hd
  obtain ⟨g, hg, _⟩ := h.pl p hp
  refine .tup (by simp) fun d hd => ?_
  rcases List.mem_cons.mp hd with rfl | hd
  · rw [gameOf_mem h.nd hg]
    exact dep_g _ (h.gm _ hg)
  · rw [List.mem_singleton.mp hd]
    exact .int _
/-! ### what is told apart -/
theorem encR_inj {a b : Rt} (h : encR a = encR b) : a = b := by
  obtain ⟨n, d⟩ := a
  obtain ⟨m, c⟩ := b
  unfold encR at h
  have e := PyData.tuple.inj h
  have e1 := PyData.int.inj (List.cons.inj e).1
  have e2 := PyData.int.inj (List.cons.inj (List.cons.inj e).2).1
  simp only at e1 e2
  rw [e1, e2]
theorem pair_inj {a b c d : PyData} (h : PyData.tuple [a, b] = .tuple [c, d]) : a = c ∧ b = d := by
  have e := PyData.tuple.inj h
  exact ⟨(List.cons.inj e).1, (List.cons.inj (List.cons.inj e).2).1⟩
theorem encT_inj {a b : Nat × Rt} (h : encT a = encT b) : a = b := by
  obtain ⟨n, d⟩ := a
  obtain ⟨m, c⟩ := b
  obtain ⟨e1, e2⟩ := pair_inj h
  have e1 := PyData.int.inj e1
  have e3 := encR_inj e2
  simp only at e1 e3
  rw [e3, Int.ofNat.inj e1]
theorem encRow_inj {a b : Row} (h : encRow a = encRow b) : a = b := map_inj_on (fun x _ y _ e => encT_inj e) (PyData.tuple.inj h)
theorem maps_inj {α β : Type} : ∀ {l m : List (α × β)}, l.map (·.1) = m.map (·.1) → l.map (·.2) = m.map (·.2) → l = m
  | [], [], _, _ => rfl
  | [], _ :: _, h, _ => by simp at h
  | _ :: _, [], h, _ => by simp at h
  | (a, b) :: l, (c, d) :: m, h1, h2 => by
    have e1 := List.cons.inj h1
    have e2 := List.cons.inj h2
    have ea : a = c := e1.1
    have eb : b = d := e2.1
    rw [ea, eb, maps_inj e1.2 e2.2]
theorem encG_inj {a b : Gm} (h : encG a = encG b) : a = b := by
  obtain ⟨e1, e2⟩ := pair_inj h
  have e1 := PyData.tuple.inj e1
  have e2 := PyData.tuple.inj e2
  refine maps_inj ?_ ?_
  · refine map_inj_on (f := encR) (fun x _ y _ e => encR_inj e) ?_
    rw [List.map_map, List.map_map]
    exact e1
  · refine map_inj_on (f := encRow) (fun x _ y _ e => encRow_inj e) ?_
    rw [List.map_map, List.map_map]
    exact e2
theorem encNG_inj {a b : Str × Gm} (h : encNG a = encNG b) : a = b := by
  obtain ⟨n, d⟩ := a
  obtain ⟨m, c⟩ := b
  obtain ⟨e1, e2⟩ := pair_inj h
  rw [show n = m from PyData.str.inj e1, show d = c from encG_inj e2]
theorem encP_inj {a b : Str × Nat} (h : encP a = encP b) : a = b := by
  obtain ⟨n, d⟩ := a
  obtain ⟨m, c⟩ := b
  obtain ⟨e1, e2⟩ := pair_inj h
  rw [show n = m from PyData.str.inj e1, show d = c from Int.ofNat.inj (PyData.int.inj e2)]
theorem encB_inj {a b : Book} (h : encB a = encB b) : a = b := by
  obtain ⟨r, gs, ps⟩ := a
  obtain ⟨r', gs', ps'⟩ := b
  have e := PyData.tuple.inj h
  have e1 := (List.cons.inj e).1
  have e2 := (List.cons.inj (List.cons.inj e).2).1
  have e3 := (List.cons.inj (List.cons.inj (List.cons.inj e).2).2).1
  rw [show r = r' from encR_inj e1, show gs = gs' from map_inj_on (fun x _ y _ e => encNG_inj e) (PyData.tuple.inj e2), show ps = ps' from map_inj_on (fun x _ y _ e => encP_inj e) (PyData.tuple.inj e3)]
theorem take_eq_succ {ds es : List PyData} {j : Nat} {d e : PyData} (hd : ds[j]? = some d) (he : es[j]? = some e) : ds.take (j + 1) = es.take (j + 1) ↔ ds.take j = es.take j ∧ d = e := by
  rw [take_at hd, take_at he]
  constructor
  · intro h
    have := List.append_inj' h rfl
    exact ⟨this.1, (List.cons.inj this.2).1⟩
  · rintro ⟨h1, h2⟩
    rw [h1, h2]
theorem ty_tup {K : PySem.W.Frag} {H : Hp} {a : Addr} {xs : List V} (h : SqT K H a xs) : TyX K H (.ref a) (.type "tuple") := by
  rcases h with (h | ⟨o, h⟩) | ⟨o, _, _, h, c, _⟩
  · exact .base (.tup h)
  · exact .fTuple h
  · exact .kTuple h c
section
variable {P : Program} {w : World} {K : PySem.W.Frag} {mg : Str → Option Value} {base : Heap} {T0 c0 : Addr} {tD tL : Tok}
/-! ### _law_same -/
abbrev s_law_same : Stmt := top 36
theorem sc_law_same : FnScope ["_law_actual", "_law_due", "_law_k"] ["_law_actual", "_law_due"] (defScope s_law_same) := ⟨rfl, rfl, rfl, by decide +kernel, rfl, by decide +kernel, by decide +kernel⟩
def spSame (T0 : Addr) (K : PySem.W.Frag) (n : Nat) : Sp := fun us H Q _ => ∃ (u v : V) (d e : PyData), us = [u, v] ∧ Dt K H u d ∧ Dt K H v e ∧ DepLe n e ∧ ∀ H' b, Ext T0 H H' → (b = true ↔ d = e) → Q (.bl b) H'
theorem same_step {n : Nat} (D : At K mg "_law_same" s_law_same) (T : Nm mg tD tL) (G_law_same : Ok P w K mg base n "_law_same" ["_law_actual", "_law_due"] (spSame T0 K n)) : Ok P w K mg base (n + 1) "_law_same" ["_law_actual", "_law_due"] (spSame T0 K (n + 1)) := by
  refine D.ok sc_law_same (fun _ _ _ _ _ _ us hl => match us, hl with | [_, _], _ => rfl) (fun vs H Q E h => ?_) (fun f cdv A outer s H us Q E hr h => ?_)
  · obtain ⟨_, _, _, _, rfl, _⟩ := h
    rfl
  · obtain ⟨u, v, d, e, rfl, hu, hv, hdep, q⟩ := h
    refine ⟨_, (pss_cons (ps_if (pt_cmpR op_isN (pv 1) pe_non (nomark _))
  (pss_one (ps_ret (pe_cmpR op_isN (pv 0) pe_non (nomark _))))
  pss_nil)
  (pss_cons (ps_if (pt_val (pe_callB call_isi (by rfl) T.n_isinstance (by decide +kernel) (pa_cons (pv 1) (pa_cons (pe_bltn (v := .ty "bool") (by rfl) T.n_bool (by decide +kernel) rfl) pa_nil))))
  (pss_one (ps_ret (pe_and (pe_callB call_isi (by rfl) T.n_isinstance (by decide +kernel) (pa_cons (pv 0) (pa_cons (pe_bltn (v := .ty "bool") (by rfl) T.n_bool (by decide +kernel) rfl) pa_nil))) (pe_one (pe_cmpR op_eq (pv 0) (pv 1) (nomark _))))))
  pss_nil)
  (pss_cons (ps_if (pt_val (pe_callB call_isi (by rfl) T.n_isinstance (by decide +kernel) (pa_cons (pv 1) (pa_cons (pe_bltn (v := .ty "int") (by rfl) T.n_int (by decide +kernel) rfl) pa_nil))))
  (pss_one (ps_ret (pe_and (pe_callB call_isi (by rfl) T.n_isinstance (by decide +kernel) (pa_cons (pv 0) (pa_cons (pe_bltn (v := .ty "int") (by rfl) T.n_int (by decide +kernel) rfl) pa_nil))) (pe_and (pe_not (pe_callB call_isi (by rfl) T.n_isinstance (by decide +kernel) (pa_cons (pv 0) (pa_cons (pe_bltn (v := .ty "bool") (by rfl) T.n_bool (by decide +kernel) rfl) pa_nil)))) (pe_one (pe_cmpR op_eq (pv 0) (pv 1) (nomark _)))))))
  pss_nil)
  (pss_cons (ps_if (pt_val (pe_callB call_isi (by rfl) T.n_isinstance (by decide +kernel) (pa_cons (pv 1) (pa_cons (pe_bltn (v := .ty "str") (by rfl) T.n_str (by decide +kernel) rfl) pa_nil))))
  (pss_one (ps_ret (pe_and (pe_callB call_isi (by rfl) T.n_isinstance (by decide +kernel) (pa_cons (pv 0) (pa_cons (pe_bltn (v := .ty "str") (by rfl) T.n_str (by decide +kernel) rfl) pa_nil))) (pe_one (pe_cmpR op_eq (pv 0) (pv 1) (nomark _))))))
  pss_nil)
  (pss_cons (ps_if (pt_val (pe_callB call_isi (by rfl) T.n_isinstance (by decide +kernel) (pa_cons (pv 1) (pa_cons (pe_bltn (v := .ty "list") (by rfl) T.n_list (by decide +kernel) rfl) pa_nil))))
  (pss_one (ps_if (PW.pt (pw_or (pt_not (pt_val (pe_callB call_isi (by rfl) T.n_isinstance (by decide +kernel) (pa_cons (pv 0) (pa_cons (pe_bltn (v := .ty "list") (by rfl) T.n_list (by decide +kernel) rfl) pa_nil))))) (pw_or1 (pt_cmpR op_ne (pe_callB call_len_seq (by rfl) T.n_len PySem.boot_len (pa_cons (pv 0) pa_nil)) (pe_callB call_len_seq (by rfl) T.n_len PySem.boot_len (pa_cons (pv 1) pa_nil)) (nomark _)))))
  (pss_one (ps_ret pe_bl))
  pss_nil))
  (pss_one (ps_if (PW.pt (pw_or (pt_not (pt_val (pe_callB call_isi (by rfl) T.n_isinstance (by decide +kernel) (pa_cons (pv 0) (pa_cons (pe_bltn (v := .ty "tuple") (by rfl) T.n_tuple (by decide +kernel) rfl) pa_nil))))) (pw_or1 (pt_cmpR op_ne (pe_callB call_len_seq (by rfl) T.n_len PySem.boot_len (pa_cons (pv 0) pa_nil)) (pe_callB call_len_seq (by rfl) T.n_len PySem.boot_len (pa_cons (pv 1) pa_nil)) (nomark _)))))
  (pss_one (ps_ret pe_bl))
  pss_nil)))
  (pss_one (ps_ret (pe_callB (cr_all rfl) (by rfl) T.n_all (by decide +kernel) (pa_cons (pe_lc (own := [("_law_k", 2)]) (g := _) (tt := _) rfl sc_law_same.nd (pi_range1 (by rfl) T.n_range (pa_cons (pe_callB call_len_seq (by rfl) T.n_len PySem.boot_len (pa_cons (pv 1) pa_nil)) pa_nil)) (blkOk_by (own := [("_law_k", 2)]) (N := ["_law_actual", "_law_due", "_law_k"]) (sc := defScope s_law_same) (by decide +kernel)) (fun _ _ _ _ _ => (pg_name (i := 2) sc_law_same.nd rfl (Or.inl rfl))) (fun _ _ _ _ _ => pts_nil) (fun _ _ _ _ _ => (pe_own G_law_same (hr.mono (Nat.le_refl _)) (by rfl) (pa_cons (pe_ix (r := rIxT K) ix_tup (pv 0) (pv 2) (fun _ _ => rfl)) (pa_cons (pe_ix (r := rIxT K) ix_tup (pv 1) (pv 2) (fun _ _ => rfl)) pa_nil))))) pa_nil))))))))), ?_⟩
    refine ⟨_, rfl, rfl, _, rfl, ite2 (fun z => ?_) (fun _ => ?_)⟩
    · have z := of_decide_eq_true z
      subst z
      cases hv
    cases hdep with
    | int i =>
      cases hv
      refine ⟨_, rfl, _, _, _, _, false, rfl, .ty _, .base (.int _), kit_ty (by decide +kernel), _, rfl, ifF rfl ?_⟩
      refine ⟨_, rfl, _, _, _, _, true, rfl, .ty _, .base (.int _), kit_ty (by decide +kernel), _, rfl, ifT rfl ?_⟩
      cases hu with
      | int j =>
        refine ⟨_, rfl, _, _, _, _, true, rfl, .ty _, .base (.int _), kit_ty (by decide +kernel), _, rfl, ifT rfl ?_⟩
        refine ⟨_, rfl, _, _, _, _, false, rfl, .ty _, .base (.int _), kit_ty (by decide +kernel), _, rfl, _, rfl, ifT rfl ?_⟩
        refine ⟨_, rfl, _, rfl, rfl, q _ _ (.refl T0 H) ?_⟩
        rw [decide_eq_true_eq]
        exact ⟨fun z => by rw [V.int.inj z], fun z => by rw [PyData.int.inj z]⟩
      | str x => exact ⟨_, rfl, _, _, _, _, false, rfl, .ty _, .base (.str _), kit_ty (by decide +kernel), _, rfl, ifF rfl (q _ _ (.refl T0 H) ⟨fun z => (nomatch z), fun z => (nomatch z)⟩)⟩
      | tup h r => exact ⟨_, rfl, _, _, _, _, false, rfl, .ty _, ty_tup h, kit_ty (by decide +kernel), _, rfl, ifF rfl (q _ _ (.refl T0 H) ⟨fun z => (nomatch z), fun z => (nomatch z)⟩)⟩
    | str i =>
      cases hv
      refine ⟨_, rfl, _, _, _, _, false, rfl, .ty _, .base (.str _), kit_ty (by decide +kernel), _, rfl, ifF rfl ?_⟩
      refine ⟨_, rfl, _, _, _, _, false, rfl, .ty _, .base (.str _), kit_ty (by decide +kernel), _, rfl, ifF rfl ?_⟩
      refine ⟨_, rfl, _, _, _, _, true, rfl, .ty _, .base (.str _), kit_ty (by decide +kernel), _, rfl, ifT rfl ?_⟩
      cases hu with
      | str j =>
        refine ⟨_, rfl, _, _, _, _, true, rfl, .ty _, .base (.str _), kit_ty (by decide +kernel), _, rfl, ifT rfl ?_⟩
        refine ⟨_, rfl, _, rfl, rfl, q _ _ (.refl T0 H) ?_⟩
        rw [decide_eq_true_eq]
        exact ⟨fun z => by rw [V.str.inj z], fun z => by rw [PyData.str.inj z]⟩
      | int x => exact ⟨_, rfl, _, _, _, _, false, rfl, .ty _, .base (.int _), kit_ty (by decide +kernel), _, rfl, ifF rfl (q _ _ (.refl T0 H) ⟨fun z => (nomatch z), fun z => (nomatch z)⟩)⟩
      | tup h r => exact ⟨_, rfl, _, _, _, _, false, rfl, .ty _, ty_tup h, kit_ty (by decide +kernel), _, rfl, ifF rfl (q _ _ (.refl T0 H) ⟨fun z => (nomatch z), fun z => (nomatch z)⟩)⟩
    | @tup _ es hl hes =>
      obtain ⟨b, ys, rfl, sb, de⟩ := hv.tup_inv
      refine ⟨_, rfl, _, _, _, _, false, rfl, .ty _, ty_tup sb, kit_ty (by decide +kernel), _, rfl, ifF rfl ?_⟩
      refine ⟨_, rfl, _, _, _, _, false, rfl, .ty _, ty_tup sb, kit_ty (by decide +kernel), _, rfl, ifF rfl ?_⟩
      refine ⟨_, rfl, _, _, _, _, false, rfl, .ty _, ty_tup sb, kit_ty (by decide +kernel), _, rfl, ifF rfl ?_⟩
      refine ⟨_, rfl, _, _, _, _, false, rfl, .ty _, ty_tup sb, kit_ty (by decide +kernel), _, rfl, ifF rfl ?_⟩
      cases hu with
      | int x => exact ⟨_, rfl, _, _, _, _, false, rfl, .ty _, .base (.int _), kit_ty (by decide +kernel), _, rfl, ifT rfl (ifT rfl (q _ _ (.refl T0 H) ⟨fun z => (nomatch z), fun z => (nomatch z)⟩))⟩
      | str x => exact ⟨_, rfl, _, _, _, _, false, rfl, .ty _, .base (.str _), kit_ty (by decide +kernel), _, rfl, ifT rfl (ifT rfl (q _ _ (.refl T0 H) ⟨fun z => (nomatch z), fun z => (nomatch z)⟩))⟩
      | @tup a xs ds sa dd =>
        have l1 := dd.length
        have l2 := de.length
        refine ⟨_, rfl, _, _, _, _, true, rfl, .ty _, ty_tup sa, kit_ty (by decide +kernel), _, rfl, ifF rfl ?_⟩
        refine ⟨_, rfl, a, _, rfl, .inr sa, _, rfl, b, _, rfl, .inr sb, rfl, _, rfl, ite2 (fun z => ?_) (fun z => ?_)⟩
        · refine q _ _ (.refl T0 H) ⟨fun z => (nomatch z), fun z2 => ?_⟩
          have z2 := PyData.tuple.inj z2
          rw [l1, l2, z2] at z
          simp at z
        · have hlen : ds.length = es.length := by
            rw [← l1, ← l2]
            simp at z
            omega
          refine ⟨_, rfl, b, _, rfl, .inr sb, _, rfl, by omega, by omega, fun L nL => ?_⟩
          refine lc_range (lo := 0) (n := ((ys.length : Nat) : Int).toNat) (fun j H'' => Ext T0 H H'' ∧ ∃ bs : List Bool, H'' L = some (.lst (bs.map V.bl)) ∧ bs.length = j ∧ (bs.all id = true ↔ ds.take j = es.take j))
            ⟨Ext.new nL, [], upd_same, rfl, by simp⟩ ?_ ?_
          · rintro j H'' hj ⟨x, bs, hL, lb, hb⟩
            have hj' : j < es.length := by omega
            obtain ⟨d, ed⟩ : ∃ d, ds[j]? = some d := ⟨_, List.getElem?_eq_getElem (by omega)⟩
            obtain ⟨e, ee⟩ : ∃ e, es[j]? = some e := ⟨_, List.getElem?_eq_getElem hj'⟩
            obtain ⟨u, eu, du⟩ := (dd.ext x).get ed
            obtain ⟨v, ev, dv⟩ := (de.ext x).get ee
            refine ⟨rfl, ?_⟩
            refine ⟨_, rfl, _, rfl, a, _, _, u, rfl, rfl, x.seqT sa, at_of (j := j) (by omega) eu, _, rfl, _, rfl, b, _, _, v, rfl, rfl, x.seqT sb, at_of (j := j) (by omega) ev, ?_⟩
            refine ⟨_, _, d, e, rfl, du, dv, hes e (List.mem_of_getElem? ee), fun H3 c x3 hc => ?_⟩
            refine ⟨_, x3.lst hL, lt_line (by rw [List.length_map]; omega), (x.trans x3).put nL, bs ++ [c], ?_, by rw [List.length_append, lb]; rfl, ?_⟩
            · rw [upd_same, List.map_append]
              rfl
            · rw [take_eq_succ ed ee, ← hb, ← hc, List.all_append]
              simp
          · rintro H'' ⟨x, bs, hL, lb, hb⟩
            refine ⟨L, bs, rfl, SqL.of hL, q _ _ x ?_⟩
            rw [hb, Int.toNat_natCast, l2, List.take_length, ← hlen, List.take_length]
            exact ⟨fun z => by rw [z], fun z => PyData.tuple.inj z⟩
theorem ok_law_same (D : At K mg "_law_same" s_law_same) (T : Nm mg tD tL) : ∀ n, Ok P w K mg base n "_law_same" ["_law_actual", "_law_due"] (spSame T0 K n)
  | 0 => by
    obtain ⟨f, fd, F, hm⟩ := D.ex
    refine ⟨f, fd, hm, F.kp, F.binds (fun _ _ _ _ _ _ us hl => match us, hl with | [_, _], _ => rfl), ⟨fun vs H Q E h => ?_, fun A outer s H args us vs Q E _ _ _ _ h => ?_⟩⟩
    · obtain ⟨_, _, _, _, _, _, _, h, _⟩ := h
      cases h
    · obtain ⟨_, _, _, _, _, _, _, h, _⟩ := h
      cases h
  | n + 1 => same_step D T (ok_law_same D T n)
end
end Bk

namespace Bk
open PySem PySem.Spec PyProof.Rows L2 GxR TL
theorem cut_ints (ns : List Int) (lo hi : Option Int) : ∃ ms : List Int, cutV (ns.map V.int) lo hi = ms.map V.int := by
  refine ⟨(ns.drop (HT.sIx (ns.map V.int).length 0 lo)).take (HT.sIx (ns.map V.int).length (ns.map V.int).length hi - HT.sIx (ns.map V.int).length 0 lo), ?_⟩
  rw [List.map_take, List.map_drop]
  rfl
section
variable {P : Program} {w : World} {K : PySem.W.Frag} {mg : Str → Option Value} {base : Heap} {T0 c0 : Addr} {tD tL : Tok}
/-! ### law -/
abbrev s_law : Stmt := top 44
theorem sc_law : FnScope ["_law_script", "_law_books", "_law_texts", "_law_book_here", "_law_k"] ["_law_script"] (defScope s_law) := ⟨rfl, rfl, rfl, by decide +kernel, rfl, by decide +kernel, by decide +kernel⟩
def spLaw0 (T0 : Addr) (K : PySem.W.Frag) : Sp := fun us H Q _ => ∃ (a : Addr) (ns : List Int), us = [.ref a] ∧ SqL K H a (ns.map V.int) ∧ TabG H T0 ∧ ∀ H', Q (.bl true) H'
theorem ok_law {f : Addr} {fd : FuncData} (D : Fun K "law" "law" s_law f fd) (T : Nm mg tD tL) (G_law_book : Ok P w K mg base 5 "_law_book" ["_law_script"] (spLB T0 K)) (G_write_book : Ok P w K mg base 3 "write_book" ["book"] (spWB T0 K)) (G_read_book : Ok P w K mg base 6 "read_book" ["text"] (spBook T0 K)) (G_company_of : Ok P w K mg base 1 "company_of" ["book"] (spCo T0 K)) (G_law_company : Ok P w K mg base 1 "_law_company" ["_law_book_here"] (spCo T0 K)) (G_law_same : Ok P w K mg base 9 "_law_same" ["_law_actual", "_law_due"] (spSame T0 K 9)) :
    FnOk P w K mg base CX0 10 f fd ["_law_script"] (spLaw0 T0 K) := by
  refine D.ok sc_law (fun vs H Q E h => ?_) (fun cdv A outer s H us Q E hr h => ?_)
  · obtain ⟨_, _, rfl, _⟩ := h
    rfl
  · obtain ⟨a, ns, rfl, hS, hT, q⟩ := h
    refine ⟨_, (pss_cons (ps_set (i := 1) sc_law.nd rfl (Or.inl rfl) (pe_lst (pa_cons (pe_own G_law_book (hr.mono (by decide)) (by rfl) (pa_cons (pv 0) pa_nil)) (pa_cons (pe_own G_law_book (hr.mono (by decide)) (by rfl) (pa_cons (pe_slice sl_list (pv 0) (po_some pe_int) po_none) pa_nil)) pa_nil))))
  (pss_cons (ps_setLc (i := 2) (own := [("_law_book_here", 3)]) (g := _) (tt := _) rfl sc_law.nd rfl rfl (sw_true rfl rfl rfl (by decide +kernel)) (pi_list (pv 1)) (blkOk_by (own := [("_law_book_here", 3)]) (N := ["_law_script", "_law_books", "_law_texts", "_law_book_here", "_law_k"]) (sc := defScope s_law) (by decide +kernel)) (fun _ _ _ _ _ => (pg_name (i := 3) sc_law.nd rfl (Or.inl rfl))) (fun _ _ _ _ _ => pts_nil) (fun _ _ _ _ _ => (pe_own G_write_book (hr.mono (by decide)) (by rfl) (pa_cons (pv 3) pa_nil))))
  (pss_cons (ps_for PassesOwn.never rfl (pi_list (pe_lst (pa_cons pe_int (pa_cons pe_int (pa_cons pe_int pa_nil))))) (pg_name (i := 4) sc_law.nd rfl (Or.inl rfl))
  (pss_cons (ps_if (PW.pt (pw_or (pt_not (pt_val (pe_callB call_isi (by rfl) T.n_isinstance (by decide +kernel) (pa_cons (pe_ix ix_list (pv 2) (pv 4) (fun _ _ => rfl)) (pa_cons (pe_bltn (v := .ty "str") (by rfl) T.n_str (by decide +kernel) rfl) pa_nil))))) (pw_or1 (pt_not (pt_val (pe_own G_law_same (hr.mono (by decide)) (by rfl) (pa_cons (pe_own G_read_book (hr.mono (by decide)) (by rfl) (pa_cons (pe_ix ix_list (pv 2) (pv 4) (fun _ _ => rfl)) pa_nil)) (pa_cons (pe_ix ix_list (pv 1) (pv 4) (fun _ _ => rfl)) pa_nil))))))))
  (pss_one (ps_ret pe_bl))
  pss_nil)
  (pss_one (ps_if (pt_not (pt_val (pe_own G_law_same (hr.mono (by decide)) (by rfl) (pa_cons (pe_own G_company_of (hr.mono (by decide)) (by rfl) (pa_cons (pe_ix ix_list (pv 1) (pv 4) (fun _ _ => rfl)) pa_nil)) (pa_cons (pe_own G_law_company (hr.mono (by decide)) (by rfl) (pa_cons (pe_ix ix_list (pv 1) (pv 4) (fun _ _ => rfl)) pa_nil)) pa_nil)))))
  (pss_one (ps_ret pe_bl))
  pss_nil))))
  (pss_one (ps_ret (pe_cmpR op_eq (pe_cmpR op_eq (pe_ix ix_list (pv 2) pe_int (fun _ _ => rfl)) (pe_ix ix_list (pv 2) pe_int (fun _ _ => rfl)) (nomark _)) (pe_own G_law_same (hr.mono (by decide)) (by rfl) (pa_cons (pe_ix ix_list (pv 1) pe_int (fun _ _ => rfl)) (pa_cons (pe_ix ix_list (pv 1) pe_int (fun _ _ => rfl)) pa_nil))) (nomark _))))))), ?_⟩
    obtain ⟨ms, ems⟩ := cut_ints ns (some 3) none
    refine ⟨_, rfl, a, ns, rfl, hS, fun v0 b0 H1 x1 d0 B0 => ?_⟩
    refine ⟨_, rfl, 3, rfl, a, _, rfl, x1.seqL hS, fun p np => ?_⟩
    rw [ems]
    have n2 := Ext.new (T := T0) (o := .lst (ms.map V.int)) np
    refine ⟨p, ms, rfl, SqL.of upd_same, fun v1 b1 H3 x3 d1 B1 => ⟨sz2, fun bl nbl => ?_⟩⟩
    have n4 := Ext.new (T := T0) (o := .lst [v0, v1]) nbl
    have x4 := (((x1.trans n2).trans x3).trans n4)
    have hbl : upd H3 bl (.lst [v0, v1]) bl = some (.lst [v0, v1]) := upd_same
    have dd : DtAll K (upd H3 bl (.lst [v0, v1])) [v0, v1] [encB b0, encB b1] := .cons (((d0.ext n2).ext x3).ext n4) (.cons (d1.ext n4) .nil)
    have BB : ∀ (j : Nat) (b : Book), ([b0, b1] : List Book)[j]? = some b → BOk b := fun j b e => by
      rcases j with _ | _ | j
      · cases e
        exact B0
      · cases e
        exact B1
      · cases e
    generalize upd H3 bl (.lst [v0, v1]) = H4 at x4 hbl dd n4
    clear n4 nbl d1 x3 n2 np d0
    refine ⟨_, rfl, bl, rfl, ⟨_, SqL.of hbl⟩, fun tl' ntl => ?_⟩
    refine lc_list (K := K) (a := bl) (xs := [v0, v1]) (fun j H'' => Ext T0 H4 H'' ∧ H'' tl' = some (.lst ((([b0, b1] : List Book).take j).map fun b => V.str (textS (formsOf b)))))
      ⟨Ext.new ntl, upd_same⟩ (fun j H'' _ ⟨x, _⟩ => SqL.of (x.lst hbl)) ?_ ?_
    · rintro j u H'' hu ⟨x5, hL⟩
      obtain ⟨d, ed, du⟩ := (dd.ext x5).get' hu
      have ed : (([b0, b1] : List Book).map encB)[j]? = some d := ed
      rw [List.getElem?_map] at ed
      cases eb : ([b0, b1] : List Book)[j]? with
      | none =>
        rw [eb] at ed
        cases ed
      | some b =>
        rw [eb] at ed
        cases ed
        refine ⟨rfl, ?_⟩
        refine ⟨_, rfl, u, b, rfl, du, BB _ _ eb, fun H6 x6 => ?_⟩
        refine ⟨_, x6.lst hL, lt_line (by rw [List.length_map, List.length_take]; simp; omega), (x5.trans x6).put ntl, ?_⟩
        rw [upd_same, take_at eb, List.map_append]
        rfl
    · rintro H5 ⟨x5, htl⟩
      have htl : H5 tl' = some (.lst [.str (textS (formsOf b0)), .str (textS (formsOf b1))]) := htl
      have dd5 := dd.ext x5
      have hbl5 := x5.lst hbl
      have tab5 := x5.tab (x4.tab hT)
      refine ⟨sz3, fun ll nll => ⟨ll, rfl, ⟨_, SqL.of upd_same⟩, ?_⟩⟩
      have n6 := Ext.new (T := T0) (o := .lst [.int 0, .int 1, .int 0]) nll
      refine for_list (K := K) (a := ll) (xs := [.int 0, .int 1, .int 0]) (fun i σ H' => ∃ y4 : Option V, σ = [some (.ref a), some (.ref bl), some (.ref tl'), none, y4] ∧ Ext T0 (upd H5 ll (.lst [.int 0, .int 1, .int 0])) H')
        ⟨none, rfl, .refl _ _⟩ (fun i σ H' _ ⟨_, _, x⟩ => SqL.of (x.lst upd_same)) ?_ ?_
      · rintro i x σ H' hx ⟨y4, rfl, x7⟩
        have x6 := n6.trans x7
        obtain ⟨k, rfl, v, b, ev, et, hB, dv⟩ : ∃ k : Nat, x = .int k ∧ ∃ (v : V) (b : Book), ([v0, v1] : List V)[k]? = some v ∧ ([V.str (textS (formsOf b0)), .str (textS (formsOf b1))] : List V)[k]? = some (.str (textS (formsOf b))) ∧ BOk b ∧ Dt K H5 v (encB b) := by
          obtain ⟨w0, r, e, g0, dr⟩ := dd5.cons_inv
          cases e
          obtain ⟨w1, r, e, g1, _⟩ := dr.cons_inv
          cases e
          rcases i with _ | _ | _ | i
          · cases hx
            exact ⟨0, rfl, v0, b0, rfl, rfl, B0, g0⟩
          · cases hx
            exact ⟨1, rfl, v1, b1, rfl, rfl, B1, g1⟩
          · cases hx
            exact ⟨0, rfl, v0, b0, rfl, rfl, B0, g0⟩
          · cases hx
        have dv6 := dv.ext x6
        refine ⟨_, rfl, _, rfl, tl', _, _, _, rfl, rfl, SqL.of (x6.lst htl), atI_nat (j := k) et, _, _, _, _, true, rfl, .ty _, .base (.str _), kit_ty (by decide +kernel), _, rfl, ifF rfl ?_⟩
        refine ⟨_, rfl, _, rfl, tl', _, _, _, rfl, rfl, SqL.of (x6.lst htl), atI_nat (j := k) et, textS (formsOf b), b, rfl, hB, rfl, x6.tab tab5, fun u H8 x8 d8 => ?_⟩
        have y8 := x6.trans x8
        refine ⟨_, rfl, _, rfl, bl, _, _, _, rfl, rfl, SqL.of (y8.lst hbl5), atI_nat (j := k) ev, ?_⟩
        refine ⟨u, v, _, _, rfl, d8, dv6.ext x8, dep_b hB, fun H9 c x9 hc => ?_⟩
        have hc := hc.mpr rfl
        subst hc
        refine ⟨_, rfl, ifF rfl ?_⟩
        have y9 := y8.trans x9
        refine ⟨_, rfl, _, rfl, bl, _, _, _, rfl, rfl, SqL.of (y9.lst hbl5), atI_nat (j := k) ev, v, b, rfl, dv.ext y9, hB, fun u1 Ha xa da => ?_⟩
        have ya := y9.trans xa
        refine ⟨_, rfl, _, rfl, bl, _, _, _, rfl, rfl, SqL.of (ya.lst hbl5), atI_nat (j := k) ev, v, b, rfl, dv.ext ya, hB, fun u2 Hb xb db => ?_⟩
        refine ⟨u1, u2, _, _, rfl, da.ext xb, db, dep_c hB, fun Hc c xc hc => ?_⟩
        have hc := hc.mpr rfl
        subst hc
        refine ⟨_, rfl, ifF rfl ?_⟩
        exact ⟨_, rfl, (((x7.trans x8).trans x9).trans (xa.trans xb)).trans xc⟩
      · rintro σ H' ⟨y4, rfl, x7⟩
        have x6 := n6.trans x7
        have dd6 := dd5.ext x6
        obtain ⟨w0, r, e, g0, dr⟩ := dd6.cons_inv
        cases e
        obtain ⟨w1, r, e, g1, _⟩ := dr.cons_inv
        cases e
        refine ⟨_, rfl, tl', _, _, _, rfl, rfl, SqL.of (x6.lst htl), at0, _, rfl, tl', _, _, _, rfl, rfl, SqL.of (x6.lst htl), at1, rfl, ?_⟩
        refine ⟨_, rfl, bl, _, _, _, rfl, rfl, SqL.of (x6.lst hbl5), at0, _, rfl, bl, _, _, _, rfl, rfl, SqL.of (x6.lst hbl5), at1, v0, v1, _, _, rfl, g0, g1, dep_b B1, fun H9 c x9 hc => ⟨rfl, ?_⟩⟩
        have key : decide (V.str (textS (formsOf b0)) = V.str (textS (formsOf b1))) = c := by
          rw [Bool.eq_iff_iff, decide_eq_true_eq, hc]
          constructor
          · intro z
            have z := V.str.inj z
            rw [text_inj B0 B1 (show tl (textS (formsOf b0)) = tl (textS (formsOf b1)) by rw [z])]
          · intro z
            rw [encB_inj z]
        have key2 : decide (V.bl (decide (V.str (textS (formsOf b0)) = V.str (textS (formsOf b1)))) = V.bl c) = true := decide_eq_true (by rw [key])
        show Q (V.bl (decide (V.bl (decide (V.str (textS (formsOf b0)) = V.str (textS (formsOf b1)))) = V.bl c))) _
        rw [key2]
        exact q _
end
end Bk

namespace Bk
open PySem PySem.Spec PyProof.Rows L2 GxR TL
/-! ### all together -/
theorem at_mk {K : PySem.W.Frag} {h : Heap} {mg : Str → Option Value} (X : K.In h) (G : h.Ns mainGlobals mg) {x : Str} {st : Stmt} {f : Addr} {oc : Value} {od an : Option Addr} {sl : Array (Option Value)} {kV doc pm cd ct : Value}
    (a : PySem.W.nsIn K mainGlobals x = some (some (.ref f))) (l : K.lookup f = some ⟨oc, od, .func (PySem.W.fnOf x x (defArgs st) (defBody st) (defScope st) .none kV doc pm an cd ct), sl⟩)
    (c : PySem.W.codeIn K cd x = true) (k : PySem.W.keepIn K (.ref f) = true) : At K mg x st := ⟨f, _, fun_mk (st := st) l c k, PySem.W.mg_of X G a⟩
theorem atc_mk {K : PySem.W.Frag} {h : Heap} {mg : Str → Option Value} (X : K.In h) (G : h.Ns mainGlobals mg) {x : Str} {st : Stmt} {f c0 : Addr} {oc : Value} {od an : Option Addr} {sl : Array (Option Value)} {kV doc pm ct : Value}
    (a : PySem.W.nsIn K mainGlobals x = some (some (.ref f))) (l : K.lookup f = some ⟨oc, od, .func (PySem.W.fnOf x x (defArgs st) (defBody st) (defScope st) .none kV doc pm an (.ref c0) ct), sl⟩)
    (c : PySem.W.codeIn K (.ref c0) x = true) (k : PySem.W.keepIn K (.ref f) = true) : AtC K mg x st c0 := ⟨f, _, fun_mk (st := st) l c k, PySem.W.mg_of X G a, rfl⟩
theorem tab_mk {K : PySem.W.Frag} {x : Str} {f c0 T0 : Addr} {oc e : Value} {od od2 : Option Addr} {sl sl2 : Array (Option Value)} {fd : FuncData} {vs : Array Value} (a : PySem.W.nsIn K mainGlobals x = some (some (.ref f))) (l : K.lookup f = some ⟨oc, od, .func fd, sl⟩)
    (hc : fd.code = .ref c0) (lc : K.lookup c0 = some ⟨e, od2, .fields vs, sl2⟩) (v : (vs[11]? : Option Value) = some (.ref T0)) : PySem.W.tabIn K x = some (c0, T0) := by
  unfold PySem.W.tabIn
  rw [a]
  simp only [l, hc, lc, v]
/-- the defs of the text, and what the names hold -/
structure Txt (K : PySem.W.Frag) (mg : Str → Option Value) (tD tL : Tok) (c0 : Addr) : Prop where
  nm : Nm mg tD tL
  common_divisor : At K mg "common_divisor" s_common_divisor
  make_ratio : At K mg "make_ratio" s_make_ratio
  add : At K mg "add" s_add
  compare : At K mg "compare" s_compare
  read_count : At K mg "read_count" s_read_count
  read_integer : At K mg "read_integer" s_read_integer
  read_ratio : At K mg "read_ratio" s_read_ratio
  is_name : AtC K mg "is_name" s_is_name c0
  read_line : At K mg "read_line" s_read_line
  read_lines : At K mg "read_lines" s_read_lines
  count_states : At K mg "count_states" s_count_states
  row_total : At K mg "row_total" s_row_total
  breaks_move_rule : At K mg "breaks_move_rule" s_breaks_move_rule
  state_counts : At K mg "state_counts" s_state_counts
  check_lines : At K mg "check_lines" s_check_lines
  read_book : At K mg "read_book" s_read_book
  company_of : At K mg "company_of" s_company_of
  write_ratio : At K mg "write_ratio" s_write_ratio
  write_game : At K mg "write_game" s_write_game
  write_book : At K mg "write_book" s_write_book
  law_company : At K mg "_law_company" s_law_company
  law_cell : At K mg "_law_cell" s_law_cell
  law_draws : At K mg "_law_draws" s_law_draws
  law_gcd : At K mg "_law_gcd" s_law_gcd
  law_low : At K mg "_law_low" s_law_low
  law_same : At K mg "_law_same" s_law_same
  law_fraction : At K mg "_law_fraction" s_law_fraction
  law_discount : At K mg "_law_discount" s_law_discount
  law_game : At K mg "_law_game" s_law_game
  law_sparse : At K mg "_law_sparse" s_law_sparse
  law_name : At K mg "_law_name" s_law_name
  law_book : At K mg "_law_book" s_law_book
section
variable {P : Program} {w : World} {K : PySem.W.Frag} {mg : Str → Option Value} {base : Heap} {T0 c0 : Addr} {tD tL : Tok}
theorem law_fn {f : Addr} {fd : FuncData} (F : Fun K "law" "law" s_law f fd) (X : Txt K mg tD tL c0) (TB : TabB base mg c0 T0) : FnOk P w K mg base CX0 10 f fd ["_law_script"] (spLaw0 T0 K) := by
  have T := X.nm
  have g_div := ok_common_divisor (P := P) (w := w) (base := base) X.common_divisor T
  have g_make := ok_make_ratio (T0 := T0) X.make_ratio g_div
  have g_add := ok_add X.add g_make
  have g_cmp := ok_compare (P := P) (w := w) (base := base) X.compare
  have g_count := ok_read_count (P := P) (w := w) (base := base) X.read_count T
  have g_int := ok_read_integer X.read_integer g_count
  have g_ratio := ok_read_ratio (T0 := T0) X.read_ratio T g_count g_int g_div
  have g_name := ok_is_name (P := P) (w := w) X.is_name T TB
  have g_line := ok_read_line X.read_line T g_ratio g_name g_count
  have g_lines := ok_read_lines X.read_lines T g_line
  have g_cs := ok_count_states (P := P) (w := w) (base := base) (T0 := T0) X.count_states
  have g_row := ok_row_total X.row_total g_add
  have g_move := ok_breaks_move_rule (T0 := T0) X.breaks_move_rule g_cmp
  have g_state := ok_state_counts X.state_counts T g_cs
  have g_check := ok_check_lines X.check_lines T g_state g_cmp g_cs g_row g_move
  have g_read := ok_read_book X.read_book T g_lines g_check
  have g_co := ok_company_of (P := P) (w := w) (base := base) (T0 := T0) X.company_of T
  have g_wr := ok_write_ratio (P := P) (w := w) (base := base) X.write_ratio T
  have g_wg := ok_write_game (T0 := T0) X.write_game T g_wr
  have g_wb := ok_write_book (T0 := T0) X.write_book T g_wr g_wg
  have g_lco := ok_law_company (P := P) (w := w) (base := base) (T0 := T0) X.law_company T
  have g_cell := ok_law_cell (P := P) (w := w) (base := base) X.law_cell T
  have g_draws := ok_law_draws (P := P) (w := w) (base := base) (T0 := T0) X.law_draws T
  have g_gcd := ok_law_gcd (P := P) (w := w) (base := base) X.law_gcd T
  have g_low := ok_law_low (T0 := T0) X.law_low g_gcd
  have g_frac := ok_law_fraction X.law_fraction T g_low
  have g_disc := ok_law_discount X.law_discount T g_low
  have g_game := ok_law_game X.law_game T g_draws g_frac g_low
  have g_sparse := ok_law_sparse X.law_sparse T g_cell g_draws g_frac g_low
  have g_nm := ok_law_name X.law_name T g_draws
  have g_book := ok_law_book X.law_book T g_cell g_draws g_low g_disc g_nm g_game g_sparse
  have g_same := ok_law_same (P := P) (w := w) (base := base) (T0 := T0) X.law_same T 9
  exact ok_law F T g_book g_wb g_read g_co g_lco g_same
end
/-- what is known of the law at the head's heap -/
theorem law_at {l : PySem.W.OpenLaw} {w : World} {K : PySem.W.Frag} {mg : Str → Option Value} {h : Heap} {T0 c0 fa : Addr} {tD tL : Tok} (KX : K.In h) (G : h.Ns mainGlobals mg) (hm : mg "law" = some (.ref fa)) (X : Txt K mg tD tL c0)
    (C : PySem.W.CodeHd h c0 T0) (hT : h.get? T0 = some { cls := .none, data := .fields #[] }) (nT : K.lookup T0 = none)
    {f : Addr} {oc : Value} {od an : Option Addr} {sl : Array (Option Value)} {kV doc pm cd ct : Value}
    (a : PySem.W.nsIn K mainGlobals "law" = some (some (.ref f))) (lk : K.lookup f = some ⟨oc, od, .func (PySem.W.fnOf "law" "law" (defArgs s_law) (defBody s_law) (defScope s_law) .none kV doc pm an cd ct), sl⟩)
    (c : PySem.W.codeIn K cd "law" = true) (k : PySem.W.keepIn K (.ref f) = true) : LamX.LawAtS l w K CX0 10 63 "_law_script" mg fa h := by
  have e := hm.symm.trans (PySem.W.mg_of KX G a)
  cases e
  refine ⟨_, [(c0, T0)], spLaw0 T0 K, fun p hp => ?_, fun p hp => ?_, fun p hp => ?_, fun s v => ?_, fun H a ns _ _ hH hS => ?_, fun base _ _ hB => law_fn (fun_mk (st := s_law) lk c k) X (let z := hB (c0, T0) (List.mem_singleton.mpr rfl); ⟨z.code, z.bm, z.gP⟩)⟩
  · rw [List.mem_singleton.mp hp]
    exact hT
  · rw [List.mem_singleton.mp hp]
    exact nT
  · rw [List.mem_singleton.mp hp]
    exact C
  · exact .of_eq rfl
  · exact ⟨a, ns, rfl, hS, ⟨#[], hH _ (List.mem_singleton.mpr rfl), by first | trivial | exact .nil | (unfold TriplesOk; simp)⟩, fun _ => rfl⟩
theorem nm_mk {K : PySem.W.Frag} {h : Heap} {mg : Str → Option Value} {tD tL : Tok} (X : K.In h) (G : h.Ns mainGlobals mg)
    (b0 : PySem.W.nsIn K mainGlobals "len" = some none)
    (b1 : PySem.W.nsIn K mainGlobals "int" = some none)
    (b2 : PySem.W.nsIn K mainGlobals "abs" = some none)
    (b3 : PySem.W.nsIn K mainGlobals "range" = some none)
    (b4 : PySem.W.nsIn K mainGlobals "enumerate" = some none)
    (b5 : PySem.W.nsIn K mainGlobals "zip" = some none)
    (b6 : PySem.W.nsIn K mainGlobals "tuple" = some none)
    (b7 : PySem.W.nsIn K mainGlobals "str" = some none)
    (b8 : PySem.W.nsIn K mainGlobals "all" = some none)
    (b9 : PySem.W.nsIn K mainGlobals "sum" = some none)
    (b10 : PySem.W.nsIn K mainGlobals "isinstance" = some none)
    (b11 : PySem.W.nsIn K mainGlobals "bool" = some none)
    (b12 : PySem.W.nsIn K mainGlobals "list" = some none)
    (g1 : PySem.W.nsIn K mainGlobals "gcd" = some (some (.builtin "math.gcd"))) (g2 : PySem.W.nsIn K mainGlobals "DIGITS" = some (some (.str "0123456789" tD))) (g3 : PySem.W.nsIn K mainGlobals "LETTERS" = some (some (.str "abcdefghijklmnopqrstuvwxyz" tL))) : Nm mg tD tL where
  n_len := PySem.W.mg_none_of X G b0
  n_int := PySem.W.mg_none_of X G b1
  n_abs := PySem.W.mg_none_of X G b2
  n_range := PySem.W.mg_none_of X G b3
  n_enumerate := PySem.W.mg_none_of X G b4
  n_zip := PySem.W.mg_none_of X G b5
  n_tuple := PySem.W.mg_none_of X G b6
  n_str := PySem.W.mg_none_of X G b7
  n_all := PySem.W.mg_none_of X G b8
  n_sum := PySem.W.mg_none_of X G b9
  n_isinstance := PySem.W.mg_none_of X G b10
  n_bool := PySem.W.mg_none_of X G b11
  n_list := PySem.W.mg_none_of X G b12
  gcd := PySem.W.mg_of X G g1
  mg_DIGITS := PySem.W.mg_of X G g2
  mg_LETTERS := PySem.W.mg_of X G g3
/-- the law from what the head has written out -/
theorem law_all {l : PySem.W.OpenLaw} {w : World} {K : PySem.W.Frag} {mg : Str → Option Value} {h : Heap} {fa : Addr} {tD tL : Tok} (KX : K.In h) (G : h.Ns mainGlobals mg) (hm : mg "law" = some (.ref fa))
    (hT : ∀ c P, PySem.W.tabIn K "is_name" = some (c, P) → PySem.W.CodeHd h c P ∧ h.get? P = some { cls := .none, data := .fields #[] }) (nm : Nm mg tD tL)
    (x0 : At K mg "common_divisor" s_common_divisor)
    (x1 : At K mg "make_ratio" s_make_ratio)
    (x2 : At K mg "add" s_add)
    (x3 : At K mg "compare" s_compare)
    (x4 : At K mg "read_count" s_read_count)
    (x5 : At K mg "read_integer" s_read_integer)
    (x6 : At K mg "read_ratio" s_read_ratio)
    (x7 : At K mg "read_line" s_read_line)
    (x8 : At K mg "read_lines" s_read_lines)
    (x9 : At K mg "count_states" s_count_states)
    (x10 : At K mg "row_total" s_row_total)
    (x11 : At K mg "breaks_move_rule" s_breaks_move_rule)
    (x12 : At K mg "state_counts" s_state_counts)
    (x13 : At K mg "check_lines" s_check_lines)
    (x14 : At K mg "read_book" s_read_book)
    (x15 : At K mg "company_of" s_company_of)
    (x16 : At K mg "write_ratio" s_write_ratio)
    (x17 : At K mg "write_game" s_write_game)
    (x18 : At K mg "write_book" s_write_book)
    (x19 : At K mg "_law_company" s_law_company)
    (x20 : At K mg "_law_cell" s_law_cell)
    (x21 : At K mg "_law_draws" s_law_draws)
    (x22 : At K mg "_law_gcd" s_law_gcd)
    (x23 : At K mg "_law_low" s_law_low)
    (x24 : At K mg "_law_same" s_law_same)
    (x25 : At K mg "_law_fraction" s_law_fraction)
    (x26 : At K mg "_law_discount" s_law_discount)
    (x27 : At K mg "_law_game" s_law_game)
    (x28 : At K mg "_law_sparse" s_law_sparse)
    (x29 : At K mg "_law_name" s_law_name)
    (x30 : At K mg "_law_book" s_law_book)
    {f c0 T0 : Addr} {oc e : Value} {od an od2 : Option Addr} {sl sl2 : Array (Option Value)} {kV doc pm ct : Value} {vs : Array Value} (a : PySem.W.nsIn K mainGlobals "is_name" = some (some (.ref f))) (lk : K.lookup f = some ⟨oc, od, .func (PySem.W.fnOf "is_name" "is_name" (defArgs s_is_name) (defBody s_is_name) (defScope s_is_name) .none kV doc pm an (.ref c0) ct), sl⟩)
    (c : PySem.W.codeIn K (.ref c0) "is_name" = true) (k : PySem.W.keepIn K (.ref f) = true) (lc : K.lookup c0 = some ⟨e, od2, .fields vs, sl2⟩) (v : (vs[11]? : Option Value) = some (.ref T0)) (n : K.lookup T0 = none)
    {f2 : Addr} {oc2 : Value} {odl anl : Option Addr} {sll : Array (Option Value)} {kVl docl pml cdl ctl : Value} (a2 : PySem.W.nsIn K mainGlobals "law" = some (some (.ref f2))) (lk2 : K.lookup f2 = some ⟨oc2, odl, .func (PySem.W.fnOf "law" "law" (defArgs s_law) (defBody s_law) (defScope s_law) .none kVl docl pml anl cdl ctl), sll⟩)
    (c2 : PySem.W.codeIn K cdl "law" = true) (k2 : PySem.W.keepIn K (.ref f2) = true) : LamX.LawAtS l w K CX0 10 63 "_law_script" mg fa h := by
  obtain ⟨C, hP⟩ := hT _ _ (tab_mk a lk rfl lc v)
  refine law_at KX G hm (c0 := c0) (T0 := T0) (tD := tD) (tL := tL) { nm := nm, is_name := atc_mk KX G a lk c k, common_divisor := x0, make_ratio := x1, add := x2, compare := x3, read_count := x4, read_integer := x5, read_ratio := x6, read_line := x7, read_lines := x8, count_states := x9, row_total := x10, breaks_move_rule := x11, state_counts := x12, check_lines := x13, read_book := x14, company_of := x15, write_ratio := x16, write_game := x17, write_book := x18, law_company := x19, law_cell := x20, law_draws := x21, law_gcd := x22, law_low := x23, law_same := x24, law_fraction := x25, law_discount := x26, law_game := x27, law_sparse := x28, law_name := x29, law_book := x30 } C hP n a2 lk2 c2 k2
/-- the end: one table is known empty -/
theorem walk_nm {l : PySem.W.OpenLaw} {n k : Nat} {q : Program} {loose : List Str} {XP : (Str → Option Value) → Heap → Prop} {YP : World → Heap → Prop} {d : DefRec} {K : Params → PySem.W.Frag} {x y : Str}
    (hn : l.most = some n) (hn2 : n ≤ sizeLine) (hdf : d.params.defaults = []) (hr : Room k callerA) (hrec : ((PyProof.Rows.recsOf q).find? fun e => e.name == y).isSome = true) (hY : ∀ (w : World) (h : Heap), YP w h → (K w.params).In h)
    (F : ∀ (w : World) (mg : Str → Option Value) (fa : Addr) (h : Heap), (K w.params).In h → h.Ns mainGlobals mg → mg d.name = some (.ref fa) → (∀ c P, PySem.W.tabIn (K w.params) y = some (c, P) → PySem.W.CodeHd h c P ∧ h.get? P = some { cls := .none, data := .fields #[] }) → LamX.LawAtS l w (K w.params) CX0 k n x mg fa h) :
    PySem.W.WalkO q loose XP YP l.row.toRowW d [] fun f us => PySem.call f us := by
  refine Att.attach_callB hn hdf ?_
  intro w s0 s1 mg mb fa ob pm cd doc a us ns G Y _ _ _ hmg hlist hints hlen hbits hgens
  have KX := hY w _ Y
  obtain ⟨dN, hdN⟩ := Option.isSome_iff_exists.mp hrec
  obtain ⟨fd, cs, sp, tabs, unwritten, codes, binds, promise, run⟩ := F w mg fa _ KX G.T.g hmg fun c P ht => PySem.W.tab_of G.T KX hdN ht
  exact LamX.law_callTs KX G.T.g G.T.b G.T.builtins G.T.nolimit hgens tabs unwritten codes G.T.bmain hlist hints (Nat.le_trans hlen hn2) hr run binds (fun H hH hS => promise H a ns hlen hbits hH hS) fun _ _ _ z => z
end Bk

open PySem PySem.W PyProof.Rows in
set_option maxRecDepth 100000 in
set_option maxHeartbeats 0 in
theorem PySem.Challenge.cw_anycompany_k21_whole_books_come_back_holds : PySem.Challenge.rw_anycompany_k21_whole_books_come_back.Holds := by
  w_on; o_law; k_head; (case hw => w_witness2)
  k_fill
  refine Bk.walk_nm (l := PySem.Challenge.rw_anycompany_k21_whole_books_come_back) (n := 63) (k := 10) (x := "_law_script") (y := Str.ofString "is_name") rfl (by decide) rfl ⟨rfl, by decide, by decide⟩ ?rec (fun w h Y => PySem.W.kIn_of Y) ?F
  (case rec => decide +kernel)
  case F =>
    intro w mg fa h KX G hmg hT
    refine' Bk.law_all KX G hmg hT ?nm ?x0 ?x1 ?x2 ?x3 ?x4 ?x5 ?x6 ?x7 ?x8 ?x9 ?x10 ?x11 ?x12 ?x13 ?x14 ?x15 ?x16 ?x17 ?x18 ?x19 ?x20 ?x21 ?x22 ?x23 ?x24 ?x25 ?x26 ?x27 ?x28 ?x29 ?x30 ?a ?lk ?c ?k ?lc ?v ?n ?a2 ?lk2 ?c2 ?k2
    case nm =>
      refine' Bk.nm_mk KX G ?b0 ?b1 ?b2 ?b3 ?b4 ?b5 ?b6 ?b7 ?b8 ?b9 ?b10 ?b11 ?b12 ?g1 ?g2 ?g3
      (case b0 => k_is)
      (case b1 => k_is)
      (case b2 => k_is)
      (case b3 => k_is)
      (case b4 => k_is)
      (case b5 => k_is)
      (case b6 => k_is)
      (case b7 => k_is)
      (case b8 => k_is)
      (case b9 => k_is)
      (case b10 => k_is)
      (case b11 => k_is)
      (case b12 => k_is)
      (case g1 => k_is)
      (case g2 => k_is)
      (case g3 => k_is)
    case x0 =>
      refine' Bk.at_mk KX G ?p0 ?q0 ?r0 ?s0
      (case p0 => k_is)
      (case q0 => k_is)
      (case r0 => k_is)
      (case s0 => k_is)
    case x1 =>
      refine' Bk.at_mk KX G ?p1 ?q1 ?r1 ?s1
      (case p1 => k_is)
      (case q1 => k_is)
      (case r1 => k_is)
      (case s1 => k_is)
    case x2 =>
      refine' Bk.at_mk KX G ?p2 ?q2 ?r2 ?s2
      (case p2 => k_is)
      (case q2 => k_is)
      (case r2 => k_is)
      (case s2 => k_is)
    case x3 =>
      refine' Bk.at_mk KX G ?p3 ?q3 ?r3 ?s3
      (case p3 => k_is)
      (case q3 => k_is)
      (case r3 => k_is)
      (case s3 => k_is)
    case x4 =>
      refine' Bk.at_mk KX G ?p4 ?q4 ?r4 ?s4
      (case p4 => k_is)
      (case q4 => k_is)
      (case r4 => k_is)
      (case s4 => k_is)
    case x5 =>
      refine' Bk.at_mk KX G ?p5 ?q5 ?r5 ?s5
      (case p5 => k_is)
      (case q5 => k_is)
      (case r5 => k_is)
      (case s5 => k_is)
    case x6 =>
      refine' Bk.at_mk KX G ?p6 ?q6 ?r6 ?s6
      (case p6 => k_is)
      (case q6 => k_is)
      (case r6 => k_is)
      (case s6 => k_is)
    case x7 =>
      refine' Bk.at_mk KX G ?p7 ?q7 ?r7 ?s7
      (case p7 => k_is)
      (case q7 => k_is)
      (case r7 => k_is)
      (case s7 => k_is)
    case x8 =>
      refine' Bk.at_mk KX G ?p8 ?q8 ?r8 ?s8
      (case p8 => k_is)
      (case q8 => k_is)
      (case r8 => k_is)
      (case s8 => k_is)
    case x9 =>
      refine' Bk.at_mk KX G ?p9 ?q9 ?r9 ?s9
      (case p9 => k_is)
      (case q9 => k_is)
      (case r9 => k_is)
      (case s9 => k_is)
    case x10 =>
      refine' Bk.at_mk KX G ?p10 ?q10 ?r10 ?s10
      (case p10 => k_is)
      (case q10 => k_is)
      (case r10 => k_is)
      (case s10 => k_is)
    case x11 =>
      refine' Bk.at_mk KX G ?p11 ?q11 ?r11 ?s11
      (case p11 => k_is)
      (case q11 => k_is)
      (case r11 => k_is)
      (case s11 => k_is)
    case x12 =>
      refine' Bk.at_mk KX G ?p12 ?q12 ?r12 ?s12
      (case p12 => k_is)
      (case q12 => k_is)
      (case r12 => k_is)
      (case s12 => k_is)
    case x13 =>
      refine' Bk.at_mk KX G ?p13 ?q13 ?r13 ?s13
      (case p13 => k_is)
      (case q13 => k_is)
      (case r13 => k_is)
      (case s13 => k_is)
    case x14 =>
      refine' Bk.at_mk KX G ?p14 ?q14 ?r14 ?s14
      (case p14 => k_is)
      (case q14 => k_is)
      (case r14 => k_is)
      (case s14 => k_is)
    case x15 =>
      refine' Bk.at_mk KX G ?p15 ?q15 ?r15 ?s15
      (case p15 => k_is)
      (case q15 => k_is)
      (case r15 => k_is)
      (case s15 => k_is)
    case x16 =>
      refine' Bk.at_mk KX G ?p16 ?q16 ?r16 ?s16
      (case p16 => k_is)
      (case q16 => k_is)
      (case r16 => k_is)
      (case s16 => k_is)
    case x17 =>
      refine' Bk.at_mk KX G ?p17 ?q17 ?r17 ?s17
      (case p17 => k_is)
      (case q17 => k_is)
      (case r17 => k_is)
      (case s17 => k_is)
    case x18 =>
      refine' Bk.at_mk KX G ?p18 ?q18 ?r18 ?s18
      (case p18 => k_is)
      (case q18 => k_is)
      (case r18 => k_is)
      (case s18 => k_is)
    case x19 =>
      refine' Bk.at_mk KX G ?p19 ?q19 ?r19 ?s19
      (case p19 => k_is)
      (case q19 => k_is)
      (case r19 => k_is)
      (case s19 => k_is)
    case x20 =>
      refine' Bk.at_mk KX G ?p20 ?q20 ?r20 ?s20
      (case p20 => k_is)
      (case q20 => k_is)
      (case r20 => k_is)
      (case s20 => k_is)
    case x21 =>
      refine' Bk.at_mk KX G ?p21 ?q21 ?r21 ?s21
      (case p21 => k_is)
      (case q21 => k_is)
      (case r21 => k_is)
      (case s21 => k_is)
    case x22 =>
      refine' Bk.at_mk KX G ?p22 ?q22 ?r22 ?s22
      (case p22 => k_is)
      (case q22 => k_is)
      (case r22 => k_is)
      (case s22 => k_is)
    case x23 =>
      refine' Bk.at_mk KX G ?p23 ?q23 ?r23 ?s23
      (case p23 => k_is)
      (case q23 => k_is)
      (case r23 => k_is)
      (case s23 => k_is)
    case x24 =>
      refine' Bk.at_mk KX G ?p24 ?q24 ?r24 ?s24
      (case p24 => k_is)
      (case q24 => k_is)
      (case r24 => k_is)
      (case s24 => k_is)
    case x25 =>
      refine' Bk.at_mk KX G ?p25 ?q25 ?r25 ?s25
      (case p25 => k_is)
      (case q25 => k_is)
      (case r25 => k_is)
      (case s25 => k_is)
    case x26 =>
      refine' Bk.at_mk KX G ?p26 ?q26 ?r26 ?s26
      (case p26 => k_is)
      (case q26 => k_is)
      (case r26 => k_is)
      (case s26 => k_is)
    case x27 =>
      refine' Bk.at_mk KX G ?p27 ?q27 ?r27 ?s27
      (case p27 => k_is)
      (case q27 => k_is)
      (case r27 => k_is)
      (case s27 => k_is)
    case x28 =>
      refine' Bk.at_mk KX G ?p28 ?q28 ?r28 ?s28
      (case p28 => k_is)
      (case q28 => k_is)
      (case r28 => k_is)
      (case s28 => k_is)
    case x29 =>
      refine' Bk.at_mk KX G ?p29 ?q29 ?r29 ?s29
      (case p29 => k_is)
      (case q29 => k_is)
      (case r29 => k_is)
      (case s29 => k_is)
    case x30 =>
      refine' Bk.at_mk KX G ?p30 ?q30 ?r30 ?s30
      (case p30 => k_is)
      (case q30 => k_is)
      (case r30 => k_is)
      (case s30 => k_is)
    (case a => k_is)
    (case lk => k_is)
    (case c => k_is)
    (case k => k_is)
    (case lc => k_is)
    (case v => exact rfl)
    (case n => first | kernel_rfl | exact rfl)
    (case a2 => k_is)
    (case lk2 => k_is)
    (case c2 => k_is)
    (case k2 => k_is)
