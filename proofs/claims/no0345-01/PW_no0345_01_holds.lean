import PyProof.Rows.All
import Wide.All
import OpenK.AllK
import Wide.FinOn
import PySem.Challenge.RW_no0345_01
open PySem PySem.W PyProof.Rows
set_option Elab.async false

namespace Mine
section PartHd
set_option maxRecDepth 100000
set_option maxHeartbeats 8000000
open_top hd for PySem.Challenge.rw_no0345_01
end PartHd
end Mine

namespace Mine
section PartFind
open PySem PySem.W PySem.Calls PyProof.Rows PySem.Builtin
set_option maxRecDepth 100000

theorem slot_find : Slot "bytes" "find" "bytes.find" :=
  .of (owner := "bytes") (n := "find") (by rw [typeLookup_type, builtinLookup_eq_fast]; kernel_rfl) (by decide +kernel) (by decide +kernel) (by decide +kernel)
    (by first | exact .inl (by decide +kernel) | exact .inr (by decide +kernel)) (by rw [isSubtype_type]; kernel_rfl)
theorem type_find : typeOf (.builtin "bytes.find") = pure (.type "method_descriptor") := by show builtinType _ = _; rw [builtinType_eq_fast]; kernel_rfl
theorem entry_find : entryFor table "bytes.find" = some Builtin.«bytes.find» := entryFor_of_tree (by kernel_rfl)
theorem args_find_3 (a b c : Value) : argsOk "bytes.find" ⟨[a, b, c], []⟩ := by
  unfold argsOk; rw [signature?_of (id := "bytes.find") (n := ['d', 'n', 'i', 'f']) (o := ['s', 'e', 't', 'y', 'b']) (by kernel_rfl) FB.owner_bytes]; kernel_rfl
theorem args_find_4 (a b c d : Value) : argsOk "bytes.find" ⟨[a, b, c, d], []⟩ := by
  unfold argsOk; rw [signature?_of (id := "bytes.find") (n := ['d', 'n', 'i', 'f']) (o := ['s', 'e', 't', 'y', 'b']) (by kernel_rfl) FB.owner_bytes]; kernel_rfl

def findS (b sub : Array UInt8) (start stop : Option Int) : Option (Nat × Nat) :=
  if (Bytes.window b.size start stop).2 - (Bytes.window b.size start stop).1 < sub.size then none else some ((Bytes.window b.size start stop).1.toNat, (Bytes.window b.size start stop).2.toNat)
def findO (b sub : Array UInt8) (start stop : Option Int) : Option Nat := (findS b sub start stop).bind fun p => Bytes.find? b sub p.1 p.2
def findV (o : Option Nat) : Int := match o with | some i => (i : Int) | none => -1
theorem index_int : typeLookup (.type "int") "__index__" = pure (some (.builtin "int.__index__")) := by rw [typeLookup_type, builtinLookup_eq_fast]; kernel_rfl
theorem bound_int (i : Int) (v : Tok) : Bytes.bound? (some (.int i v)) = pure (some i) := by
  have e : specialOf (.int i v) "__index__" = typeLookup (.type "int") "__index__" := rfl
  show (specialOf (.int i v) "__index__" >>= fun r => _) = _
  rw [e, index_int]
  rfl
theorem bound_none : Bytes.bound? none = pure none := rfl

section
variable {b c : Array UInt8} {t u v x : Tok} {i j : Int}
theorem search3 : Bytes.searchArgs .bytes "find" ⟨[.bytes b t, .bytes c u, .int i v], []⟩ = pure (b, c, findS b c (some i) none) := by
  unfold Bytes.searchArgs
  have e : ∀ n, selfAndSome n "find" 1 3 ⟨[.bytes b t, .bytes c u, .int i v], []⟩ = pure (.bytes b t, [.bytes c u, .int i v]) := fun _ => rfl
  dsimp only
  rw [e, pure_bind]
  have e1 : ([Value.bytes c u, Value.int i v] : List Value)[1]? = some (.int i v) := rfl
  have e2 : ([Value.bytes c u, Value.int i v] : List Value)[2]? = none := rfl
  have e3 : ([Value.bytes c u, Value.int i v] : List Value).headD Value.none = .bytes c u := rfl
  dsimp only
  simp only [e1, e2, e3, bound_int, bound_none, pure_bind, KBy.buffer_eq]
  rfl
theorem search4 : Bytes.searchArgs .bytes "find" ⟨[.bytes b t, .bytes c u, .int i v, .int j x], []⟩ = pure (b, c, findS b c (some i) (some j)) := by
  unfold Bytes.searchArgs
  have e : ∀ n, selfAndSome n "find" 1 3 ⟨[.bytes b t, .bytes c u, .int i v, .int j x], []⟩ = pure (.bytes b t, [.bytes c u, .int i v, .int j x]) := fun _ => rfl
  dsimp only
  rw [e, pure_bind]
  have e1 : ([Value.bytes c u, Value.int i v, Value.int j x] : List Value)[1]? = some (.int i v) := rfl
  have e2 : ([Value.bytes c u, Value.int i v, Value.int j x] : List Value)[2]? = some (.int j x) := rfl
  have e3 : ([Value.bytes c u, Value.int i v, Value.int j x] : List Value).headD Value.none = .bytes c u := rfl
  dsimp only
  simp only [e1, e2, e3, bound_int, pure_bind, KBy.buffer_eq]
  rfl
theorem tail_gives (k : String) (o : Option Nat) : Gives (match o with | some i => retInt i | none => (do rule k; if false then raiseError "ValueError" "subsection not found" else retInt (-1))) (.int (findV o)) := by
  cases o with
  | none => exact .rule (.of_eq rfl)
  | some i => exact .of_eq rfl
theorem gives3 : Gives («bytes.find» ⟨[.bytes b t, .bytes c u, .int i v], []⟩) (.int (findV (findO b c (some i) none))) := by
  show Gives (Bytes.searchArgs .bytes "find" ⟨[.bytes b t, .bytes c u, .int i v], []⟩ >>= fun r => _) _
  rw [search3, pure_bind]
  exact tail_gives _ (findO b c (some i) none)
theorem gives4 : Gives («bytes.find» ⟨[.bytes b t, .bytes c u, .int i v, .int j x], []⟩) (.int (findV (findO b c (some i) (some j)))) := by
  show Gives (Bytes.searchArgs .bytes "find" ⟨[.bytes b t, .bytes c u, .int i v, .int j x], []⟩ >>= fun r => _) _
  rw [search4, pure_bind]
  exact tail_gives _ (findO b c (some i) (some j))
end
section
variable {prog : Program} {w : World} {A : Around} {E : Value → Shared → Prop} {s : Shared} {Q : Value → Shared → Prop} {b c : Array UInt8} {t u v x : Tok} {i j : Int}
theorem find3 (h : Q (.int (findV (findO b c (some i) none)) s.toks) { s with toks := s.toks + 1 }) :
    wpAny (model prog w) A (call (.builtin "bytes.find") [.bytes b t, .bytes c u, .int i v]) Q E s :=
  call_gives slot_find (typeIs_bytes _ _ _) entry_find (args_find_3 _ _ _) gives3 h
theorem find4 (h : Q (.int (findV (findO b c (some i) (some j))) s.toks) { s with toks := s.toks + 1 }) :
    wpAny (model prog w) A (call (.builtin "bytes.find") [.bytes b t, .bytes c u, .int i v, .int j x]) Q E s :=
  call_gives slot_find (typeIs_bytes _ _ _) entry_find (args_find_4 _ _ _ _) gives4 h
theorem find_method {M : Model} {pl : Sem Bool} {Q : Value × List Value → Shared → Prop} (h : Q (.builtin "bytes.find", [.bytes b t]) s) : wpAny M A (getMethod (.bytes b t) "find" pl) Q E s := by
  with_reducible exact KBd.method_of (.bytes b t) (typeIs_bytes _ _ _) slot_find type_find KBd.noRef h
end
end PartFind
end Mine

namespace Mine
section PartPlain
open PySem PySem.W PySem.Calls PyProof.Rows PySem.Builtin

def ls (b : Array UInt8) (i : Nat) : Bool := decide (i = 0) || b.toList[i - 1]? == some 10
def cut (b : Array UInt8) (i n : Nat) : List UInt8 := (b.toList.drop i).take n
def hindAt (b mk : Array UInt8) (i : Nat) : Bool := ls b i && cut b i mk.size == mk.toList
def hindFrom (b mk : Array UInt8) (a : Nat) : Bool := (List.range (b.size + 1)).any fun i => decide (a ≤ i) && hindAt b mk i
def hind (b mk : Array UInt8) : Bool := hindFrom b mk 0

theorem hindFrom_true {b mk : Array UInt8} {a : Nat} : hindFrom b mk a = true ↔ ∃ i, a ≤ i ∧ i ≤ b.size ∧ hindAt b mk i = true := by
  unfold hindFrom
  rw [List.any_eq_true]
  constructor
  · rintro ⟨i, hi, h⟩
    rw [Bool.and_eq_true, decide_eq_true_eq] at h
    rw [List.mem_range] at hi
    exact ⟨i, h.1, by omega, h.2⟩
  · rintro ⟨i, h1, h2, h3⟩
    exact ⟨i, List.mem_range.mpr (by omega), by rw [Bool.and_eq_true, decide_eq_true_eq]; exact ⟨h1, h3⟩⟩

theorem extract_one (b : Array UInt8) (i : Nat) (hi : i < b.size) : (b.extract i (i + 1) == #[10]) = (b.toList[i]? == some 10) := by
  have e : b.extract i (i + 1) = #[b[i]] := by
    apply Array.ext
    · simp; omega
    · intro j h1 h2
      simp at h2
      subst h2
      simp
  rw [e]
  have e2 : b.toList[i]? = some b[i] := by simp [hi]
  rw [e2]
  cases h : (b[i] == 10)
  · have : b[i] ≠ 10 := by simpa using h
    simp [this]
  · have : b[i] = 10 := by simpa using h
    simp [this]

theorem findN_spec (b : Array UInt8) (lo : Nat) (h : lo + 1 ≤ b.size) :
    (∃ f, Bytes.find? b #[10] lo b.size = some f ∧ lo ≤ f ∧ f < b.size ∧ b.toList[f]? = some 10 ∧ ∀ j, lo ≤ j → j < f → b.toList[j]? ≠ some 10) ∨
    (Bytes.find? b #[10] lo b.size = none ∧ ∀ j, lo ≤ j → b.toList[j]? ≠ some 10) := by
  have hs : (#[10] : Array UInt8).size = 1 := rfl
  cases hf : Bytes.find? b #[10] lo b.size with
  | none =>
    refine .inr ⟨rfl, fun j hj => ?_⟩
    unfold Bytes.find? at hf
    rw [List.find?_eq_none] at hf
    by_cases hjs : j < b.size
    · have := hf j (by rw [List.mem_map]; exact ⟨j - lo, by rw [List.mem_range, hs]; omega, by omega⟩)
      rw [hs, extract_one b j hjs] at this
      simpa using this
    · rw [List.getElem?_eq_none (by simp; omega)]
      simp
  | some f =>
    refine .inl ⟨f, rfl, ?_⟩
    unfold Bytes.find? at hf
    rw [List.find?_eq_some_iff_getElem] at hf
    obtain ⟨h1, i, hi, h2, h3⟩ := hf
    rw [List.length_map, List.length_range, hs] at hi
    have hg : ∀ k (hk : k < ((List.range (b.size + 1 - (lo + (#[10] : Array UInt8).size))).map (· + lo)).length), ((List.range (b.size + 1 - (lo + (#[10] : Array UInt8).size))).map (· + lo))[k] = k + lo := by
      intro k hk
      rw [List.getElem_map, List.getElem_range]
    rw [hg] at h2
    subst h2
    have hlt : i + lo < b.size := by omega
    rw [hs, extract_one b _ hlt] at h1
    refine ⟨by omega, hlt, by simpa using h1, fun j hj1 hj2 => ?_⟩
    have := h3 (j - lo) (by omega)
    rw [hg] at this
    have e : j - lo + lo = j := by omega
    rw [e, hs, extract_one b j (by omega)] at this
    simpa using this

theorem findO_spec {b : Array UInt8} {i : Int} (stop : Option Int) (hst : stop = none ∨ stop = some (b.size : Int)) (h0 : 0 ≤ i) (h1 : i ≤ (b.size : Int)) :
    (∃ f : Nat, findO b #[10] (some i) stop = some f ∧ i.toNat ≤ f ∧ f < b.size ∧ b.toList[f]? = some 10 ∧ ∀ j, i.toNat ≤ j → j < f → b.toList[j]? ≠ some 10) ∨
    (findO b #[10] (some i) stop = none ∧ ∀ j, i.toNat ≤ j → b.toList[j]? ≠ some 10) := by
  have hw : Bytes.window b.size (some i) stop = (i, (b.size : Int)) := by
    unfold Bytes.window
    have n0 : ¬ i < 0 := by omega
    have n1 : ¬ ((b.size : Int)) < 0 := by omega
    rcases hst with rfl | rfl
    · simp only [Option.getD_some, Option.getD_none, if_neg n0, if_neg n1]
      simp
    · simp only [Option.getD_some, if_neg n0, if_neg n1]
      simp
  have hs : (#[10] : Array UInt8).size = 1 := rfl
  unfold findO findS
  rw [hw]
  dsimp only
  rw [hs]
  by_cases hlt : (b.size : Int) - i < ((1 : Nat) : Int)
  · rw [if_pos hlt]
    refine .inr ⟨rfl, fun j hj => ?_⟩
    rw [List.getElem?_eq_none (by simp; omega)]
    simp
  · rw [if_neg hlt]
    have e : (b.size : Int).toNat = b.size := by omega
    show (∃ f, Bytes.find? b #[10] i.toNat (b.size : Int).toNat = some f ∧ _) ∨ (Bytes.find? b #[10] i.toNat (b.size : Int).toNat = none ∧ _)
    rw [e]
    exact findN_spec b i.toNat (by omega)

theorem cut_picked (b : Array UInt8) (i : Int) (n : Nat) (h0 : 0 ≤ i) (h1 : i ≤ (b.size : Int)) : (KBy.picked b (some i) (some (i + (n : Int)))).toList = cut b i.toNat n := by
  obtain ⟨k, rfl⟩ : ∃ k : Nat, i = (k : Int) := ⟨i.toNat, by omega⟩
  rw [KBc.picked_eq]
  have e1 : clipAt b.size ((k : Nat) : Int) = min k b.size := clipAt_nat b.size k
  have e2 : clipAt b.size ((k : Int) + (n : Int)) = min (k + n) b.size := by
    have : ((k : Int) + (n : Int)) = ((k + n : Nat) : Int) := by omega
    rw [this]; exact clipAt_nat b.size (k + n)
  simp only [Option.elim, e1, e2]
  unfold cut
  have hk : k ≤ b.size := by omega
  have e3 : min k b.size = k := by omega
  rw [e3]
  have e4 : ((k : Int)).toNat = k := by omega
  rw [e4]
  by_cases hn : k + n ≤ b.size
  · have : min (k + n) b.size - k = n := by omega
    rw [this]
  · have : min (k + n) b.size - k = b.size - k := by omega
    rw [this, List.take_of_length_le (by simp), List.take_of_length_le (by simp; omega)]

/-- what holds at each turn of the law's own search -/
def HP (b mk : Array UInt8) (a : Int) : Prop := (a = -1 ∧ hind b mk = false) ∨ (0 ≤ a ∧ a ≤ (b.size : Int) ∧ ls b a.toNat = true ∧ hindFrom b mk a.toNat = hind b mk)
def hmeas (b : Array UInt8) (a : Int) : Nat := if a < 0 then 0 else b.size + 2 - a.toNat

theorem HP_start (b mk : Array UInt8) : HP b mk 0 := .inr ⟨by omega, by omega, rfl, rfl⟩

theorem HP_yes {b mk : Array UInt8} {a : Int} (h : HP b mk a) (h0 : a ≥ 0) (hc : ((KBy.picked b (some a) (some (a + ((KBw.bInts mk).length : Int)))).toList == mk.toList) = true) : hind b mk = true := by
  rcases h with ⟨h, _⟩ | ⟨_, h1, h2, h3⟩
  · omega
  · rw [← h3]
    rw [hindFrom_true]
    refine ⟨a.toNat, Nat.le_refl _, by omega, ?_⟩
    unfold hindAt
    rw [h2]
    rw [KBw.ints_length, cut_picked b a mk.size h0 h1] at hc
    rw [hc]; rfl

theorem not_start {b : Array UInt8} {i : Nat} (hi : 0 < i) (h : b.toList[i - 1]? ≠ some 10) : ls b i = false := by
  unfold ls
  have h1 : ¬ i = 0 := by omega
  have h2 : b[i - 1]? ≠ some 10 := by simpa using h
  simp [h1, h2]

theorem HP_step {b mk : Array UInt8} {a : Int} (h : HP b mk a) (h0 : a ≥ 0) (hc : ((KBy.picked b (some a) (some (a + ((KBw.bInts mk).length : Int)))).toList == mk.toList) = false) :
    (0 ≤ findV (findO b #[10] (some a) none) → HP b mk (findV (findO b #[10] (some a) none) + 1) ∧ hmeas b (findV (findO b #[10] (some a) none) + 1) < hmeas b a) ∧
    (findV (findO b #[10] (some a) none) < 0 → HP b mk (-1) ∧ hmeas b (-1) < hmeas b a) := by
  rcases h with ⟨h, _⟩ | ⟨_, h1, h2, h3⟩
  · omega
  rw [KBw.ints_length, cut_picked b a mk.size h0 h1] at hc
  have hno : hindAt b mk a.toNat = false := by unfold hindAt; rw [h2, hc]; rfl
  rcases findO_spec (b := b) (i := a) none (.inl rfl) h0 h1 with ⟨f, hf, g1, g2, g3, g4⟩ | ⟨hf, g⟩
  · rw [hf]
    have hv : findV (some f) = (f : Int) := rfl
    rw [hv]
    refine ⟨fun _ => ⟨.inr ⟨by omega, by omega, ?_, ?_⟩, ?_⟩, fun hh => by omega⟩
    · have e : ((f : Int) + 1).toNat = f + 1 := by omega
      rw [e]
      unfold ls
      have e2 : f + 1 - 1 = f := by omega
      rw [e2, g3]
      simp
    · rw [← h3]
      have e : ((f : Int) + 1).toNat = f + 1 := by omega
      rw [e]
      rw [Bool.eq_iff_iff, hindFrom_true, hindFrom_true]
      constructor
      · rintro ⟨i, i1, i2, i3⟩
        exact ⟨i, by omega, i2, i3⟩
      · rintro ⟨i, i1, i2, i3⟩
        refine ⟨i, ?_, i2, i3⟩
        by_cases hi : f + 1 ≤ i
        · exact hi
        · exfalso
          by_cases hia : i = a.toNat
          · subst hia
            rw [hno] at i3
            cases i3
          · have : ls b i = false := not_start (by omega) (g4 (i - 1) (by omega) (by omega))
            unfold hindAt at i3
            rw [this] at i3
            cases i3
    · unfold hmeas
      rw [if_neg (by omega), if_neg (by omega)]
      omega
  · rw [hf]
    have hv : findV none = -1 := rfl
    rw [hv]
    refine ⟨fun hh => by omega, fun _ => ⟨.inl ⟨rfl, ?_⟩, ?_⟩⟩
    · rw [← h3]
      cases hh : hindFrom b mk a.toNat with
      | false => rfl
      | true =>
        exfalso
        rw [hindFrom_true] at hh
        obtain ⟨i, i1, i2, i3⟩ := hh
        by_cases hia : i = a.toNat
        · subst hia
          rw [hno] at i3
          cases i3
        · have : ls b i = false := not_start (by omega) (g (i - 1) (by omega))
          unfold hindAt at i3
          rw [this] at i3
          cases i3
    · unfold hmeas
      rw [if_pos (by omega), if_neg (by omega)]
      omega
theorem HP_end {b mk : Array UInt8} {a : Int} (h : HP b mk a) (h0 : a < 0) : hind b mk = false := by
  rcases h with ⟨_, h⟩ | ⟨h, _⟩
  · exact h
  · omega
end PartPlain
end Mine

namespace Mine
section PartBase
open PySem PySem.W PySem.Calls PyProof.Rows PySem.Builtin

theorem lk_cons {a : Str} {v : Value} {l : List (Str × Value)} : (fun y => List.lookup y ((a, v) :: l)) = fun y => if y = a then some v else List.lookup y l := by
  funext y
  rw [List.lookup_cons]
  by_cases h : y = a
  · subst h; simp
  · have : (y == a) = false := by simpa using h
    rw [this, if_neg h]
theorem fr_lk1 {g h : Heap} {L : Addr} {a : Str} {v : Value} (F : Fr g L h (fun y => List.lookup y [(a, v)])) : Fr g L h (fun y => if y = a then some v else none) := by
  rw [lk_cons] at F; exact F
theorem fr_lk2 {g h : Heap} {L : Addr} {a b : Str} {v u : Value} (F : Fr g L h (fun y => List.lookup y [(a, v), (b, u)])) : Fr g L h (fun y => if y = a then some v else if y = b then some u else none) := by
  rw [lk_cons] at F
  have e : (fun y => if y = a then some v else List.lookup y [(b, u)]) = fun y => if y = a then some v else if y = b then some u else none := by
    funext y
    have := congrFun (lk_cons (a := b) (v := u) (l := [])) y
    rw [this]
    rfl
  rw [e] at F
  exact F
theorem fr_lk3 {g h : Heap} {L : Addr} {a b c : Str} {v u x : Value} (F : Fr g L h (fun y => List.lookup y [(a, v), (b, u), (c, x)])) : Fr g L h (fun y => if y = a then some v else if y = b then some u else if y = c then some x else none) := by
  rw [lk_cons] at F
  have e : (fun y => if y = a then some v else List.lookup y [(b, u), (c, x)]) = fun y => if y = a then some v else if y = b then some u else if y = c then some x else none := by
    funext y
    have h1 := congrFun (lk_cons (a := b) (v := u) (l := [(c, x)])) y
    have h2 := congrFun (lk_cons (a := c) (v := x) (l := [])) y
    rw [h1, h2]
    rfl
  rw [e] at F
  exact F
end PartBase
end Mine

namespace Mine
section PartPlain2
open PySem PySem.W PySem.Calls PyProof.Rows PySem.Builtin

/-- the places below n at which a line begins -/
def starts (b : Array UInt8) (n : Nat) : List Nat := (List.range n).filter (ls b)

theorem starts_add (b : Array UInt8) (p : Nat) (hp : ls b p = true) : ∀ k, (∀ j, p < j → j < p + 1 + k → ls b j = false) → starts b (p + 1 + k) = starts b p ++ [p]
  | 0, _ => by
    unfold starts
    rw [Nat.add_zero, List.range_succ, List.filter_append]
    simp [hp]
  | k + 1, h => by
    have ih := starts_add b p hp k fun j h1 h2 => h j h1 (by omega)
    have e : p + 1 + (k + 1) = (p + 1 + k) + 1 := by omega
    rw [e]
    have e2 : starts b (p + 1 + k + 1) = starts b (p + 1 + k) ++ (List.filter (ls b) [p + 1 + k]) := by
      unfold starts
      rw [List.range_succ, List.filter_append]
    rw [e2, ih]
    have hf : ls b (p + 1 + k) = false := h _ (by omega) (by omega)
    simp [hf]

def LP (b : Array UInt8) (a : Int) (fs : List Nat) : Prop := 0 ≤ a ∧ a ≤ (b.size : Int) ∧ ls b a.toNat = true ∧ fs = starts b a.toNat
theorem LP_start (b : Array UInt8) : LP b 0 [] := ⟨by omega, by omega, rfl, rfl⟩
theorem LP_exit {b : Array UInt8} {a : Int} {fs : List Nat} (h : LP b a fs) (hx : (b.size : Int) ≤ a) : fs = starts b b.size := by
  obtain ⟨h0, h1, _, h3⟩ := h
  have e : a.toNat = b.size := by omega
  rw [h3, e]
theorem LP_facts {b : Array UInt8} {a : Int} {fs : List Nat} (h : LP b a fs) : 0 ≤ a ∧ a ≤ (b.size : Int) ∧ fs.length ≤ a.toNat := by
  refine ⟨h.1, h.2.1, ?_⟩
  rw [h.2.2.2]
  unfold starts
  exact Nat.le_trans (List.length_filter_le _ _) (by rw [List.length_range]; exact Nat.le_refl _)
theorem LP_step {b : Array UInt8} {a : Int} {fs : List Nat} (h : LP b a fs) (hx : a < (b.size : Int)) :
    (findV (findO b #[10] (some a) (some (b.size : Int))) < 0 → fs ++ [a.toNat] = starts b b.size) ∧
    (¬ findV (findO b #[10] (some a) (some (b.size : Int))) < 0 → a ≤ findV (findO b #[10] (some a) (some (b.size : Int))) ∧ findV (findO b #[10] (some a) (some (b.size : Int))) < (b.size : Int) ∧
      LP b (findV (findO b #[10] (some a) (some (b.size : Int))) + 1) (fs ++ [a.toNat])) := by
  obtain ⟨h0, h1, h2, h3⟩ := h
  rcases findO_spec (b := b) (i := a) (some (b.size : Int)) (.inr rfl) h0 h1 with ⟨f, hf, g1, g2, g3, g4⟩ | ⟨hf, g⟩
  · rw [hf]
    have hv : findV (some f) = (f : Int) := rfl
    rw [hv]
    refine ⟨fun hh => by omega, fun _ => ⟨by omega, by omega, by omega, by omega, ?_, ?_⟩⟩
    · have e : ((f : Int) + 1).toNat = f + 1 := by omega
      rw [e]
      unfold ls
      have e2 : f + 1 - 1 = f := by omega
      rw [e2, g3]
      simp
    · have e : ((f : Int) + 1).toNat = a.toNat + 1 + (f - a.toNat) := by omega
      rw [e, starts_add b a.toNat h2 _ fun j j1 j2 => not_start (by omega) (g4 (j - 1) (by omega) (by omega)), h3]
  · rw [hf]
    have hv : findV none = -1 := rfl
    rw [hv]
    refine ⟨fun _ => ?_, fun hh => by omega⟩
    have e : b.size = a.toNat + 1 + (b.size - a.toNat - 1) := by omega
    rw [e, starts_add b a.toNat h2 _ fun j j1 j2 => not_start (by omega) (g (j - 1) (by omega)), h3]

theorem hind_starts {b mk : Array UInt8} (hm : 0 < mk.size) : hind b mk = (starts b b.size).any fun i => cut b i mk.size == mk.toList := by
  unfold hind
  rw [Bool.eq_iff_iff, hindFrom_true, List.any_eq_true]
  constructor
  · rintro ⟨i, _, h2, h3⟩
    unfold hindAt at h3
    rw [Bool.and_eq_true] at h3
    refine ⟨i, ?_, h3.2⟩
    unfold starts
    rw [List.mem_filter, List.mem_range]
    refine ⟨?_, h3.1⟩
    rcases Nat.lt_or_ge i b.size with hlt | hge
    · exact hlt
    · exfalso
      have e : cut b i mk.size = [] := by
        unfold cut
        rw [List.drop_eq_nil_of_le (by simpa using hge), List.take_nil]
      have h4 := h3.2
      rw [e] at h4
      have h5 : [] = mk.toList := by simpa using h4
      have h6 : mk.toList.length = 0 := by rw [← h5]; rfl
      rw [Array.length_toList] at h6
      omega
  · rintro ⟨i, h1, h2⟩
    unfold starts at h1
    rw [List.mem_filter, List.mem_range] at h1
    refine ⟨i, Nat.zero_le _, by omega, ?_⟩
    unfold hindAt
    rw [h1.2, h2]
    rfl

/-- the list of spans, told by the first place of each -/
def SpansAt (led : List (Addr × Obj)) (its : List Value) (fs : List Nat) : Prop :=
  its.length = fs.length ∧ ∀ (i : Nat) (v : Value), its[i]? = some v → ∃ (a : Addr) (f : Nat) (x y : Int) (t u z : Tok) (n : Nat), fs[i]? = some f ∧ v = .ref a ∧ (a, ({ cls := .type "tuple", data := .seq #[.int (f : Int) t, .int x u, .int y z] n } : Obj)) ∈ led
theorem SpansAt.nil (led : List (Addr × Obj)) : SpansAt led [] [] := ⟨rfl, fun i v h => by simp at h⟩
theorem SpansAt.snoc {led : List (Addr × Obj)} {its : List Value} {fs : List Nat} (h : SpansAt led its fs) {a : Addr} {p : Int} {x y : Int} {t u z : Tok} {n : Nat} (hp : 0 ≤ p) :
    SpansAt ((a, ({ cls := .type "tuple", data := .seq #[.int p t, .int x u, .int y z] n } : Obj)) :: led) (its ++ [.ref a]) (fs ++ [p.toNat]) := by
  refine ⟨by rw [List.length_append, List.length_append, h.1]; rfl, fun i v hv => ?_⟩
  rcases Nat.lt_or_ge i its.length with hlt | hge
  · rw [List.getElem?_append_left hlt] at hv
    obtain ⟨a', f, x', y', t', u', z', n', h1, h2, h3⟩ := h.2 i v hv
    exact ⟨a', f, x', y', t', u', z', n', by rw [List.getElem?_append_left (by rw [← h.1]; exact hlt)]; exact h1, h2, List.mem_cons_of_mem _ h3⟩
  · rw [List.getElem?_append_right hge] at hv
    have hi : i - its.length = 0 := by
      rcases Nat.eq_zero_or_pos (i - its.length) with h0 | h0
      · exact h0
      · rw [List.getElem?_eq_none (by simp; omega)] at hv
        cases hv
    rw [hi] at hv
    have hv' : v = .ref a := by simpa using hv.symm
    refine ⟨a, p.toNat, x, y, t, u, z, n, ?_, hv', ?_⟩
    · rw [List.getElem?_append_right (by rw [← h.1]; exact hge), ← h.1, hi]
      rfl
    · have e : ((p.toNat : Nat) : Int) = p := by omega
      rw [e]
      exact List.mem_cons_self
theorem fr_set {g h : Heap} {L : Addr} {m : Str → Option Value} {a : Str} {v : Value} (F : Fr g L h m) (e : m a = some v) : Fr g L h (fun y => if y = a then some v else m y) := by
  have e' : (fun y => if y = a then some v else m y) = m := by
    funext y
    by_cases hy : y = a
    · rw [if_pos hy, hy, e]
    · rw [if_neg hy]
  rw [e']
  exact F
theorem fr_sets {g h : Heap} {L : Addr} {m : Str → Option Value} (ps : List (Str × Value)) (F : Fr g L h m) (e : ∀ p ∈ ps, m p.1 = some p.2) : Fr g L h (kstB m ps) := by
  have e' : kstB m ps = m := by
    funext y
    exact kstB_eq e fun _ => rfl
  rw [e']
  exact F
theorem all4 {α : Type} {P : α → Prop} {a b c d : α} (ha : P a) (hb : P b) (hc : P c) (hd : P d) : ∀ p ∈ [a, b, c, d], P p := by
  intro p hp
  rcases List.mem_cons.mp hp with rfl | hp
  · exact ha
  rcases List.mem_cons.mp hp with rfl | hp
  · exact hb
  rcases List.mem_cons.mp hp with rfl | hp
  · exact hc
  rw [List.mem_singleton] at hp
  subst hp
  exact hd
theorem News.here {h₀ h : Heap} {L : Addr} {news : List (Addr × Obj)} {a : Addr} {o : Obj} (N : News h₀ L h news) (hm : (a, o) ∈ news) : h.get? a = some o := (N _ hm).1
end PartPlain2
end Mine

namespace Mine
section PartHind
open PySem PySem.W PySem.Calls PyProof.Rows PySem.Builtin
set_option maxRecDepth 100000
set_option maxHeartbeats 8000000
local macro_rules | `(tactic| walk_at $s:str) => `(tactic| k_extra $s)
local macro_rules | `(tactic| walk_at "getMethod bytes") => `(tactic| (k_here; (with_reducible refine find_method ?_)))
local macro_rules | `(tactic| walk_at "call builtin:bytes.find") => `(tactic| (k_here; first | (with_reducible refine find3 ?_) | (with_reducible refine find4 ?_)))

theorem hinders_call {w : World} {mean : ExcName → Option Value} {mg mb : Str → Option Value} (b mk : Array UInt8) (tb tm : Tok) (hks : (KBw.bInts b).length ≤ 1000) (hms : (KBw.bInts mk).length ≤ 1000)
    (dp un : Nat) (gd : Option (List Code)) (cn : Str) (cs : Scope) (a : Addr) (ccd : Value) (cl : List (Str × Addr)) (outer : List Env) (A₀ : Around) (base h₀ : Heap) (L : Addr) (m : Str → Option Value) (news : List (Addr × Obj)) (s : Shared) (Q E : Value → Shared → Prop)
    (B : Below A₀ base outer h₀) (F : Fr h₀ L s.heap m) (X : (hd.heap_39 w.params).In h₀) (N : News h₀ L s.heap news)
    (T : Top hd.view_39 (looseW hd.view_39 [Str.ofString "line_spans"]) mean mg mb h₀) (hk : cs.kind = .function) (hd : dp + 1 < recursionLimit) (hu : un + 8 < cLine)
    (hret : ∀ h' tk', Fr h₀ L h' m → News h₀ L h' news → Q (.bool (hind b mk)) { s with heap := h', toks := tk' }) :
    wpAny (model Challenge.rw_no0345_01.row.prog w) (ktrTop dp un gd cn cs L a ccd cl outer) (call (.ref 47) [.bytes b tb, .bytes mk tm]) Q E s := by
  k_with_none; w_top off
  revert X; k_fill; intro X
  have hb : KBw.bInts b = KBw.bInts b := rfl
  have hm : KBw.bInts mk = KBw.bInts mk := rfl
  refine wpAny_call ?_
  k_dflt ktr_enter
  rename Fr _ _ _ _ => lF0
  have lF : Fr _ _ _ _ := fr_lk2 (a := Str.ofString "mark") (b := Str.ofString "body") (v := .bytes mk tm) (u := .bytes b tb) (by with_unfolding_all exact lF0)
  clear lF0
  iterate 5 walk1
  rename Fr _ _ _ _ => lF'
  rename News _ _ _ _ => lN'
  refine' ksw_while (σ := Int × Nat) (fun _ => news) (fun c => [(Str.ofString "at", .int c.1 c.2)]) (fun _ => True) [Str.ofString "feed"] (fun c => HP b mk c.1) (fun c => hmeas b c.1) (0, _) lF' lN' True.intro ?kk (HP_start b mk) ?_
  case kk => kst_all
  rintro ⟨at₀, ta⟩ u hh tk - hP kFr kNews
  clear lF' lN'
  dsimp only at hP
  simp only [kstB] at kFr
  try k_fold
  k_steps
  · rw [HP_yes hP (by assumption) (by assumption)] at hret
    exact hret _ _ (by assumption) (by assumption)
  · refine' ksw_end (_, _) (by assumption) (by assumption) (fun _ hp => hp) True.intro ?kk ?ks (((HP_step hP (by assumption) (by assumption)).1 (by assumption)).1) (((HP_step hP (by assumption) (by assumption)).1 (by assumption)).2)
    case kk => kst_all
    case ks => ksw_same
  · refine' ksw_end (_, _) (by assumption) (by assumption) (fun _ hp => hp) True.intro ?kk ?ks (((HP_step hP (by assumption) (by assumption)).2 (Int.not_le.mp (by assumption))).1) (((HP_step hP (by assumption) (by assumption)).2 (Int.not_le.mp (by assumption))).2)
    case kk => kst_all
    case ks => ksw_same
  · rw [HP_end hP (Int.not_le.mp (by assumption))] at hret
    exact hret _ _ (by assumption) (by assumption)
end PartHind
end Mine

namespace Mine
section PartDraw
open PySem PySem.W PySem.Calls PyProof.Rows PySem.Builtin
set_option maxRecDepth 100000
set_option maxHeartbeats 8000000
local macro_rules | `(tactic| walk_at $s:str) => `(tactic| k_extra $s)
local macro_rules | `(tactic| k_all) => `(tactic| assumption)

theorem draw_call {w : World} {mean : ExcName → Option Value} {mg mb : Str → Option Value} (T₀ C : Addr) (at₀ l : Int) (ta tl : Tok) (nT nC : Nat) (vs : List Value) (ns : List Int) (rest : List (Addr × Obj))
    (hi : IntsAre vs ns) (h0 : 0 < ns.length) (h40 : ns.length ≤ 40) (ha : 0 ≤ at₀) (hb : at₀ ≤ 1000) (hl0 : 0 < l) (hl1 : l ≤ 100)
    (dp un : Nat) (gd : Option (List Code)) (cn : Str) (cs : Scope) (a : Addr) (ccd : Value) (cl : List (Str × Addr)) (outer : List Env) (A₀ : Around) (base h₀ : Heap) (L : Addr) (m : Str → Option Value) (s : Shared) (Q E : Value → Shared → Prop)
    (B : Below A₀ base outer h₀) (F : Fr h₀ L s.heap m) (X : (hd.heap_39 w.params).In h₀)
    (N : News h₀ L s.heap ((T₀, listOf #[.ref C, .int at₀ ta] nT) :: (C, listOf vs.toArray nC) :: rest)) (hoff : ∀ p ∈ rest, p.1 ≠ T₀) (hCT : @Ne Nat C T₀)
    (T : Top hd.view_39 (looseW hd.view_39 [Str.ofString "line_spans"]) mean mg mb h₀) (hk : cs.kind = .function) (hd : dp + 1 < recursionLimit)
    (hret : ∀ r tr ta' nT' h' tk', 0 ≤ r → r < l → Fr h₀ L h' m → News h₀ L h' ((T₀, listOf #[.ref C, .int (at₀ + 1) ta'] nT') :: (C, listOf vs.toArray nC) :: rest) → Q (.int r tr) { s with heap := h', toks := tk' }) :
    wpAny (model Challenge.rw_no0345_01.row.prog w) (ktrTop dp un gd cn cs L a ccd cl outer) (call (.ref 40) [.ref T₀, .int l tl]) Q E s := by
  k_with_none; w_top off
  revert X; k_fill; intro X
  refine wpAny_call ?_
  k_dflt ktr_enter
  rename Fr _ _ _ _ => lF0
  have lF : Fr _ _ _ _ := fr_lk2 (a := Str.ofString "limit") (b := Str.ofString "tape") (v := .int l tl) (u := .ref T₀) (by with_unfolding_all exact lF0)
  clear lF0
  k_steps
  exact hret _ _ _ _ _ _ (fmod_lo _ hl0) (fmod_hi _ hl0) (by assumption) (by assumption)
end PartDraw
end Mine

namespace Mine
section PartSpans
open PySem PySem.W PySem.Calls PyProof.Rows PySem.Builtin
set_option maxRecDepth 100000
set_option maxHeartbeats 8000000
local macro_rules | `(tactic| walk_at $s:str) => `(tactic| k_extra $s)
local macro_rules | `(tactic| walk_at "getMethod bytes") => `(tactic| (k_here; (with_reducible refine find_method ?_)))
local macro_rules | `(tactic| walk_at "call builtin:bytes.find") => `(tactic| (k_here; first | (with_reducible refine find3 ?_) | (with_reducible refine find4 ?_)))
local macro_rules | `(tactic| k_all) => `(tactic| assumption)
local macro_rules | `(tactic| size_fits) => `(tactic| (simp only [List.size_toArray, sizeLine_eq]; omega))
-- entering a def of the text whose defaults lie in its written part
local macro_rules | `(tactic| walk_at "MINE enter") => `(tactic| (refine' code_def ?k1 ?k2 ?k3 ?k4 ?k5 ?kA ?kF ?kK ?k6 ?k7 ?k8 ?k9 ?kB ?_ ?c2 ?c3 ?c4 ?c5; (case kA => exact rfl); (case kF => exact rfl); (case kK => assumption); (case k1 => k_asm); (case k2 => k_asm); (case k3 => k_asm); (case k4 => k_asm); (case k5 => k_asm); (case k6 => k_is); (case k7 => k_is); (case k8 => ktr_room); (case k9 => first | exact BindsTo.of_eq rfl | exact binds_K (by k_in) rfl (by k_is) rfl rfl rfl); (case c5 => decide); (case kB => exact locs rfl); (case c2 => exact rfl); (case c3 => exact rfl); (case c4 => exact rfl); k_whole; intro g' L' h' FG' F' N' B' X' T'; (try dsimp only); (try k_fold)))

def SpJ (b : Array UInt8) (tb : Tok) (D : Addr) (news : List (Addr × Obj)) (n : Nat) (m' : Str → Option Value) (nx : List (Addr × Obj)) : Prop :=
  ∃ (bg : Int) (tbg tsz : Tok) (its : List Value) (nD : Nat) (tups : List (Addr × Obj)) (fs : List Nat),
    nx = (D, listOf its.toArray nD) :: (tups ++ news) ∧ m' (Str.ofString "begin") = some (.int bg tbg) ∧ m' (Str.ofString "found") = some (.ref D) ∧ m' (Str.ofString "behind") = some (.int (KBw.bInts b).length tsz) ∧
    m' (Str.ofString "data") = some (.bytes b tb) ∧ (∀ p ∈ tups, D < p.1) ∧ SpansAt tups its fs ∧ LP b bg fs ∧ n = b.size + 1 - bg.toNat
theorem spans_news {g h' : Heap} {L D a : Addr} {its : List Value} {n : Nat} {o : Obj} {tups news : List (Addr × Obj)} (N : News g L h' ((a, o) :: (D, listOf (its.toArray.push (.ref a)) n) :: (tups ++ news))) :
    News g L h' ((D, listOf (its ++ [Value.ref a]).toArray n) :: (((a, o) :: tups) ++ news)) := by
  have e : its.toArray.push (.ref a) = (its ++ [Value.ref a]).toArray := by simp
  rw [e] at N
  intro p hp
  rcases List.mem_cons.mp hp with rfl | hp
  · exact N _ (List.mem_cons_of_mem _ List.mem_cons_self)
  · rw [List.cons_append] at hp
    rcases List.mem_cons.mp hp with rfl | hp
    · exact N _ List.mem_cons_self
    · exact N _ (List.mem_cons_of_mem _ (List.mem_cons_of_mem _ hp))
theorem spans_gt {D a : Nat} {o : Obj} {tups : List (Addr × Obj)} (hgt : ∀ p ∈ tups, D < p.1) (h : D < a) : ∀ p ∈ (a, o) :: tups, D < p.1 := by
  intro p hp
  rcases List.mem_cons.mp hp with rfl | hp
  · exact h
  · exact hgt p hp
theorem spans_next {g h' : Heap} {L D a : Addr} {s : Shared} {m' : Str → Option Value} {Q : Flow → Shared → Prop} {b : Array UInt8} {tb : Tok} {news tups : List (Addr × Obj)} {its : List Value} {nD : Nat} {fs : List Nat} {bg x : Int} {t tt u z tsz : Tok} {tk n : Nat} {R : Prop}
    (F' : Fr g L h' m') (N' : News g L h' ((a, ({ cls := .type "tuple", data := .seq #[.int bg t, .int x u, .int (findV (findO b #[10] (some bg) (some ((KBw.bInts b).length : Int))) + 1) z] } : Obj)) :: (D, listOf (its.toArray.push (.ref a)) (nD + 1)) :: (tups ++ news)))
    (l1 : @LT.lt Nat _ D a ∧ R) (hgt : ∀ p ∈ tups, D < p.1) (hsp : SpansAt tups its fs) (hlp : LP b bg fs) (hx : bg < ((KBw.bInts b).length : Int)) (hv : ¬ findV (findO b #[10] (some bg) (some ((KBw.bInts b).length : Int))) < 0) (hn : n = b.size + 1 - bg.toNat)
    (h1 : m' (Str.ofString "begin") = some (.int (findV (findO b #[10] (some bg) (some ((KBw.bInts b).length : Int))) + 1) tt)) (h2 : m' (Str.ofString "found") = some (.ref D)) (h3 : m' (Str.ofString "behind") = some (.int (KBw.bInts b).length tsz)) (h4 : m' (Str.ofString "data") = some (.bytes b tb)) :
    WhileStep2 g L s (SpJ b tb D news) Q n .next { s with heap := h', toks := tk } := by
  have hlen : (KBw.bInts b).length = b.size := KBw.ints_length b
  have hst := (LP_step hlp (by rw [← hlen]; exact hx)).2 (by rw [← hlen]; exact hv)
  rw [← hlen] at hst
  refine ⟨h', tk, m', _, _, rfl, F', spans_news N', ?_, _, tt, tsz, its ++ [Value.ref a], nD + 1, _, fs ++ [bg.toNat], rfl, h1, h2, h3, h4, spans_gt hgt l1.1, SpansAt.snoc hsp hlp.1, hst.2.2, rfl⟩
  have := hlp.1
  have := hst.1
  have := hst.2.1
  omega

theorem spans_call {w : World} {mean : ExcName → Option Value} {mg mb : Str → Option Value} (b : Array UInt8) (tb : Tok) (hks : (KBw.bInts b).length ≤ 1000)
    (dp un : Nat) (gd : Option (List Code)) (cn : Str) (cs : Scope) (a : Addr) (ccd : Value) (cl : List (Str × Addr)) (outer : List Env) (A₀ : Around) (base h₀ : Heap) (L : Addr) (m : Str → Option Value) (news : List (Addr × Obj)) (s : Shared) (Q E : Value → Shared → Prop)
    (B : Below A₀ base outer h₀) (F : Fr h₀ L s.heap m) (X : (hd.heap_39 w.params).In h₀) (N : News h₀ L s.heap news)
    (T : Top hd.view_39 (looseW hd.view_39 [Str.ofString "line_spans"]) mean mg mb h₀) (hk : cs.kind = .function) (hd : dp + 1 < recursionLimit)
    (hret : ∀ D its nD tups h' tk', Fr h₀ L h' m → News h₀ L h' ((D, listOf its nD) :: (tups ++ news)) → SpansAt tups its.toList (starts b b.size) → (∀ p ∈ news, p.1 < D) → (∀ p ∈ tups, D < p.1) → Q (.ref D) { s with heap := h', toks := tk' }) :
    wpAny (model Challenge.rw_no0345_01.row.prog w) (ktrTop dp un gd cn cs L a ccd cl outer) (call (.ref 22) [.bytes b tb]) Q E s := by
  k_with_none; w_top off
  revert X; k_fill; intro X
  have hb : KBw.bInts b = KBw.bInts b := rfl
  refine wpAny_call ?_
  k_dflt walk_at "MINE enter"
  rename Fr _ _ _ _ => lF0
  have lF : Fr _ _ _ _ := fr_lk3 (a := Str.ofString "end") (b := Str.ofString "at") (c := Str.ofString "data") (v := .int (-1) 193) (u := .int 0 191) (x := .bytes b tb) (by with_unfolding_all exact lF0)
  clear lF0
  k_with_none
  iterate 30 walk1
  rename Fr _ _ _ _ => lF'
  rename News _ _ _ _ => lN'
  rename ∀ p ∈ news, p.1 < _ => l1
  rename_i D hx1 hx2 hx3
  refine' While_inv2 (SpJ b tb D news) lF' lN' ⟨0, 191, _, [], 0, [], [], rfl, rfl, rfl, rfl, rfl, (fun _ hp => nomatch hp), SpansAt.nil _, LP_start b, rfl⟩ ?_
  clear lF' lN'
  rintro n m₁ nx h₁ tk₁ kF kN ⟨bg, tbg, tsz, its, nD, tups, fs, rfl, h1, h2, h3, h4, hgt, hsp, hlp, hn⟩
  have kF := fr_sets [(Str.ofString "begin", .int bg tbg), (Str.ofString "found", .ref D), (Str.ofString "behind", .int (KBw.bInts b).length tsz), (Str.ofString "data", .bytes b tb)] kF (all4 h1 h2 h3 h4)
  simp only [kstB] at kF
  have hlf := LP_facts hlp
  have hitl : its.length = fs.length := hsp.1
  have hoffD : ∀ p ∈ tups ++ news, p.1 ≠ D := fun p hp => (List.mem_append.mp hp).elim (fun q => Nat.ne_of_gt (hgt p q)) fun q => Nat.ne_of_lt (l1 p q)
  have hlen : (KBw.bInts b).length = b.size := KBw.ints_length b
  have hV : ¬ findV (findO b #[10] (some bg) (some ((KBw.bInts b).length : Int))) < 0 → bg < ((KBw.bInts b).length : Int) → bg ≤ findV (findO b #[10] (some bg) (some ((KBw.bInts b).length : Int))) ∧ findV (findO b #[10] (some bg) (some ((KBw.bInts b).length : Int))) < ((KBw.bInts b).length : Int) := by
    rw [hlen]
    exact fun g1 g2 => ⟨((LP_step hlp g2).2 g1).1, ((LP_step hlp g2).2 g1).2.1⟩
  try k_fold
  k_steps
  · dsimp only [WhileStep2]
    k_steps
    refine hret _ _ _ ((_, _) :: tups) _ _ (by assumption) (spans_news (by assumption)) ?_ l1 (spans_gt hgt (And.left (by assumption)))
    rw [List.toList_toArray]
    have hst := (LP_step hlp (by rw [← hlen]; assumption)).1 (by rw [← hlen]; assumption)
    rw [← hst]
    exact SpansAt.snoc hsp hlp.1
  · exact spans_next (by assumption) (by assumption) (by assumption) hgt hsp hlp (by assumption) (by assumption) hn (by with_unfolding_all rfl) (by with_unfolding_all rfl) (by with_unfolding_all rfl) (by with_unfolding_all rfl)
  · exact spans_next (by assumption) (by assumption) (by assumption) hgt hsp hlp (by assumption) (by assumption) hn (by with_unfolding_all rfl) (by with_unfolding_all rfl) (by with_unfolding_all rfl) (by with_unfolding_all rfl)
  · exact spans_next (by assumption) (by assumption) (by assumption) hgt hsp hlp (by assumption) (by assumption) hn (by with_unfolding_all rfl) (by with_unfolding_all rfl) (by with_unfolding_all rfl) (by with_unfolding_all rfl)
  · refine hret _ _ _ tups _ _ (by assumption) (by assumption) ?_ l1 hgt
    rw [List.toList_toArray, ← LP_exit hlp (by rw [← hlen]; exact Int.not_lt.mp (by assumption))]
    exact hsp
end PartSpans
end Mine

namespace Mine
section PartComp3
open PySem PySem.W PySem.Calls PyProof.Rows PySem.Builtin PyProof.Rows.LCg PySem.Spec
set_option maxHeartbeats 4000000

/-- so many list items at which the test has held -/
def cnt (q : Nat → Bool) (i : Nat) : Nat := ((List.range i).filter q).length
theorem cnt_yes {q : Nat → Bool} {i : Nat} (h : q i = true) : cnt q (i + 1) = cnt q i + 1 := by
  unfold cnt
  rw [List.range_succ, List.filter_append, List.length_append]
  simp [h]
theorem cnt_no {q : Nat → Bool} {i : Nat} (h : q i = false) : cnt q (i + 1) = cnt q i := by
  unfold cnt
  rw [List.range_succ, List.filter_append, List.length_append]
  simp [h]
theorem cnt_le (q : Nat → Bool) (i : Nat) : cnt q i ≤ i := by
  unfold cnt
  exact Nat.le_trans (List.length_filter_le _ _) (by rw [List.length_range]; exact Nat.le_refl _)
def Ones (ys : List Value) : Prop := ∀ v ∈ ys, ∃ t, v = .int 1 t
theorem Ones.nil : Ones [] := fun _ h => nomatch h
theorem Ones.snoc {ys : List Value} (h : Ones ys) (t : Tok) : Ones (ys ++ [.int 1 t]) := by
  intro v hv
  rcases List.mem_append.mp hv with hv | hv
  · exact h v hv
  · rw [List.mem_singleton] at hv
    exact ⟨t, hv⟩

theorem Ones.ints : ∀ {ys : List Value}, Ones ys → IntsAre ys (List.replicate ys.length 1)
  | [], _ => .nil
  | v :: r, h => by
    obtain ⟨t, rfl⟩ := h v List.mem_cons_self
    exact .cons 1 t (Ones.ints fun u hu => h u (List.mem_cons_of_mem _ hu))
/-- the test, told by the items -/
def qOf {α : Type} (fs : List α) (p : α → Bool) (i : Nat) : Bool := match fs[i]? with | some f => p f | none => false
theorem cnt_any {α : Type} (fs : List α) (p : α → Bool) : (!decide (List.replicate (cnt (qOf fs p) fs.length) (1 : Int) = [])) = fs.any p := by
  have h : (cnt (qOf fs p) fs.length = 0) ↔ fs.any p = false := by
    unfold cnt
    rw [List.length_eq_zero_iff, List.filter_eq_nil_iff, List.any_eq_false]
    constructor
    · intro h x hx hp
      obtain ⟨i, hi, rfl⟩ := List.getElem_of_mem hx
      refine h i (List.mem_range.mpr hi) ?_
      unfold qOf
      rw [List.getElem?_eq_getElem hi]
      exact hp
    · intro h i hi hq
      unfold qOf at hq
      rw [List.getElem?_eq_getElem (List.mem_range.mp hi)] at hq
      exact h _ (List.getElem_mem _) hq
  cases hb : fs.any p with
  | false =>
    rw [h.mpr hb]
    simp
  | true =>
    have h0 : cnt (qOf fs p) fs.length ≠ 0 := fun e => by
      have := h.mp e
      rw [hb] at this
      cases this
    have : ¬ List.replicate (cnt (qOf fs p) fs.length) (1 : Int) = [] := fun e => h0 (List.replicate_eq_nil_iff _ |>.mp e)
    simp [this]
theorem cnt_none {α : Type} (fs : List α) (p : α → Bool) : decide (List.replicate (cnt (qOf fs p) fs.length) (1 : Int) = []) = !fs.any p := by
  rw [← cnt_any, Bool.not_not]

section
variable {prog : Program} {w : World} {A : Around} {E : Value → Shared → Prop} {s : Shared} {h₀ : Heap} {L : Addr} {m : Str → Option Value} {env : Env}

/-- what the iterable of the comprehension must come to -/
def Src3 (prog : Program) (w : World) (A : Around) (h₀ : Heap) (L : Addr) (m : Str → Option Value) (env : Env) (c : PySem.Expr) (x : Str) (scope : Scope) (cl : List (Str × Addr)) (q : Nat → Bool) (Q : Value → Shared → Prop) (xv : Value) (s₁ : Shared) : Prop :=
  ∃ (ax : Addr) (its : Array Value) (n : Nat) (news : List (Addr × Obj)), xv = .ref ax ∧ Fr h₀ L s₁.heap m ∧ News h₀ L s₁.heap news ∧ (ax, listOf its n) ∈ news ∧ its.size ≤ 1000 ∧
    (∀ (i : Nat) (v : Value), its[i]? = some v → ∃ (a : Addr) (v₁ v₂ v₃ : Value) (k : Nat), v = .ref a ∧ (a, ({ cls := .type "tuple", data := .seq #[v₁, v₂, v₃] k } : Obj)) ∈ news ∧
      ∀ (I : Addr) (oI : Obj) (C : Addr) (oC : Obj) (D : Addr) (ys : List Value) (m₂ : Str → Option Value) (h : Heap) (tk : Nat) (E' : Value → Shared → Prop), NsObj oC m₂ → m₂ x = some v₁ → Fr h₀ L h m → News h₀ L h ((I, oI) :: (C, oC) :: (D, lst ys) :: news) →
        wpAny (model prog w) A (isTrue c (compEnvC scope cl C env) (eval c (compEnvC scope cl C env)))
          (fun ok s' => ok = q i ∧ ∃ h' tk', s' = { s₁ with heap := h', toks := tk' } ∧ Fr h₀ L h' m ∧ News h₀ L h' ((I, oI) :: (C, oC) :: (D, lst ys) :: news)) E' { s₁ with heap := h, toks := tk }) ∧
    (∀ (D : Addr) (ys : List Value) (h : Heap) (tk : Nat), ys.length = cnt q its.size → Ones ys → Fr h₀ L h m → News h₀ L h ((D, lst ys) :: news) → (∀ p ∈ news, p.1 < D) → Q (.ref D) { s₁ with heap := h, toks := tk })

theorem comp3 {iter c : PySem.Expr} {pe px py pz tp pos : Pos} {kk : Nat} {x y z : Str} {scope : Scope} {cl : List (Str × Addr)} {Q : Value → Shared → Prop} (q : Nat → Bool)
    (_F₀ : Fr h₀ L s.heap m) (hclos : closureFor scope env = pure cl) (hcell : ∀ y ∈ scope.names, y.2 ≠ .cell) (hkind : scope.kind = .function)
    (hnames : ∀ y ∈ scope.names, y.2 = .local → scope.names.lookup y.1 = some .local) (hx : scope.names.lookup x = some .local) (hy : scope.names.lookup y = some .local) (hz : scope.names.lookup z = some .local) (hxy : x ≠ y) (hxz : x ≠ z)
    (hh : A.handled = none)
    (h : wpAny (model prog w) A (eval iter env) (Src3 prog w A h₀ L m env c x scope cl q Q) E s)
    (hs : ∀ x, foldedSetIterable iter env x = pure x := by intro _; rfl) :
    wpAny (model prog w) A (eval (.ListComp (.Constant (.int 1) 0 pe) [⟨.Tuple [.Name x px, .Name y py, .Name z pz] kk tp, iter, [c], 0⟩] scope pos) env) Q E s := by
  rw [eval_ListComp]
  refine wpAny_comprehension_free (use := none) rfl hs hclos hkind hnames (wpAny_mono h (fun xv s₁ h₁ => ?_) fun _ _ e => e)
  obtain ⟨ax, its, n, news, rfl, F, N, hm, hsz, turn, fin⟩ := h₁
  have hl : s₁.heap.IsList ax its := ⟨_, (N _ hm).1, rfl, n, rfl⟩
  have hlt : ax < s₁.heap.objs.size := Heap.lt_size (N _ hm).1
  refine wpAny_pyIter_list hl ?_
  -- the iterator is I, the new list D, the block's own table C
  generalize hI : s₁.heap.objs.size = I at *
  generalize hg1 : s₁.heap.push { cls := .type "list_iterator", data := .fields #[.ref ax, .int 0 0] } = g1
  have sz1 : g1.objs.size = I + 1 := by rw [← hg1, Heap.size_push, hI]
  have up1 : ∀ b o, s₁.heap.get? b = some o → g1.get? b = some o := fun b o e => hg1 ▸ Heap.get?_push_of_some _ e
  have itI : g1.IsListIter I ax 0 := ⟨_, by rw [← hg1, ← hI]; exact Heap.get?_push_size _ rfl, rfl, rfl⟩
  refine wpAny_newObj_type (wpAny_newFunctionEnv hcell (by intro y hy; simp at hy) (fun h₁ hns₁ hsb₁ => ?_) hkind)
  dsimp only at hns₁ hsb₁ ⊢
  generalize hg2 : g1.push { cls := .type "list", dict := none, data := .seq ([] : List Value).toArray } = g2 at hns₁ hsb₁ ⊢
  rw [sz1]
  have sz2 : g2.objs.size = I + 2 := by rw [← hg2, Heap.size_push, sz1]
  rw [sz2] at hns₁ hsb₁ ⊢
  have new0 : ∀ a, I ≤ a → h₀.get? a = none := fun a ha => by
    cases e : h₀.get? a with
    | none => rfl
    | some o' => exact absurd (Heap.lt_size (F.keep a o' e)) (by rw [hI]; exact Nat.not_lt.mpr ha)
  have hLI : L < I := hI ▸ F.ns.lt
  have nlt : ∀ p ∈ news, p.1 < I := fun p hp => hI ▸ Heap.lt_size (N p hp).1
  have cI : @Ne Addr (I + 2) I := Nat.ne_of_gt (Nat.lt_succ_of_lt (Nat.lt_succ_self I))
  have cL : @LT.lt Nat _ L (I + 2) := Nat.lt_succ_of_lt (Nat.lt_succ_of_lt hLI)
  have dL : @Ne Addr (I + 1) L := Nat.ne_of_gt (Nat.lt_succ_of_lt hLI)
  have old : ∀ b o, g1.get? b = some o → h₁.get? b = some o := fun b o e => hsb₁.extBut b o (by have h9 := Heap.lt_size e; rw [sz1] at h9; exact Nat.ne_of_lt (Nat.lt_succ_of_lt h9)) (Heap.get?_push_of_some _ (hg2 ▸ Heap.get?_push_of_some _ e))
  have accD : h₁.get? (I + 1) = some (lst []) := hsb₁.extBut _ _ (Nat.ne_of_lt (Nat.lt_succ_self (I + 1))) (Heap.get?_push_of_some _ (by rw [← hg2, ← sz1]; exact Heap.get?_push_size _ rfl))
  have F₁ : Fr h₀ L h₁ m := F.keeps fun b o e => old b o (up1 b o e)
  have W := Walks.list (prog := prog) (w := w) (A := A) hh I ax (Nat.ne_of_lt hlt) its
  have loop : ∀ s₃ : Shared, s₃ = { s₁ with heap := h₁, toks := s₁.toks + ([] : List (Str × Value)).length } →
      codeAny (model prog w) A (.compLoop (.ListComp (.Constant (.int 1) 0 pe) [⟨.Tuple [.Name x px, .Name y py, .Name z pz] kk tp, iter, [c], 0⟩] scope pos) 0 (.ref I) (.ref (I + 1)) (compEnvC scope cl (I + 2) env)) (compPost (model prog w) A E none Q (.ref (I + 1)) (I + 2)) s₃ := by
    rintro s₃ rfl
    refine kct_loop
      (fun k s' => ∃ h' tk i ys m', s' = { s₁ with heap := h', toks := tk } ∧ i ≤ its.size ∧ k = its.size + 1 - i ∧ ys.length = cnt q i ∧ Ones ys ∧ (h'.IsListIter I ax i ∧ h'.IsList ax its) ∧ Fr h₀ L h' m ∧ h'.Ns (I + 2) m' ∧ News h₀ L h' ((I + 1, lst ys) :: news)) ?_ (its.size + 1)
      ⟨h₁, _, 0, [], _, rfl, Nat.zero_le _, rfl, rfl, Ones.nil, ⟨?_, ?_⟩, F₁, hns₁, ?_⟩
    · rintro k s' ⟨h', tk, i, ys, m', rfl, hi, rfl, hyl, hones, hst', F', hn', N'⟩
      by_cases hlt' : i < its.size
      · refine W.item i _ _ _ hlt' hst' fun v h₂ tk₂ hPv hst₂ hk₂ => ?_
        obtain ⟨a, v₁, v₂, v₃, kt, rfl, hmt, go⟩ := turn i v hPv
        have up2 : ∀ b o, b ≠ I → h'.get? b = some o → h₂.get? b = some o := fun b o hb e => hk₂ b o (by simpa using hb) e
        have ht : IsTup h₂ a #[v₁, v₂, v₃] := ⟨_, up2 _ _ (Nat.ne_of_lt (nlt _ hmt)) (N' _ (List.mem_cons_of_mem _ hmt)).1, rfl, kt, rfl⟩
        refine wpAny_letOwnedTupleGo_listiter hst₂.1 ?_
        refine assign_Tuple_tuple hh ht rfl rfl fun h₃ he => ?_
        have up3 : ∀ b o, h₂.get? b = some o → h₃.get? b = some o := fun b o e => he b o (Nat.ne_of_lt (Heap.lt_size e)) e
        have hn₃ : h₃.Ns (I + 2) m' := (hn'.at' fun o e => up2 _ o cI e).at' fun o e => up3 _ o e
        refine assignInOrder_cons (wpAny_assign_Name (wpAny_storeName_local (lookup_relabel_local hx) hn₃ (fun h₄ hn₄ hs₄ => ?_) (by simp [compEnvC, relabel, hkind])))
        refine assignInOrder_cons (wpAny_assign_Name (wpAny_storeName_local (lookup_relabel_local hy) hn₄ (fun h₅ hn₅ hs₅ => ?_) (by simp [compEnvC, relabel, hkind])))
        refine assignInOrder_cons (wpAny_assign_Name (wpAny_storeName_local (lookup_relabel_local hz) hn₅ (fun h₆ hn₆ hs₆ => ?_) (by simp [compEnvC, relabel, hkind])))
        refine assignInOrder_nil ?_
        have up6 : ∀ b o, b ≠ I → b ≠ I + 2 → h'.get? b = some o → h₆.get? b = some o := fun b o b1 b2 e => hs₆.extBut b o b2 (hs₅.extBut b o b2 (hs₄.extBut b o b2 (up3 b o (up2 b o b1 e))))
        have F₆ : Fr h₀ L h₆ m := ⟨F'.ns.at' fun o e => up6 _ o (Nat.ne_of_lt hLI) (Nat.ne_of_lt cL) e, fun b o e => up6 b o (fun eb => by rw [eb, new0 I (Nat.le_refl _)] at e; cases e) (fun eb => by rw [eb, new0 (I + 2) (Nat.le_add_right _ _)] at e; cases e) (F'.keep b o e), F'.above⟩
        have N₆ : News h₀ L h₆ ((I + 1, lst ys) :: news) := fun p hp => by
          refine ⟨up6 _ _ ?_ ?_ (N' p hp).1, (N' p hp).2⟩
          · rcases List.mem_cons.mp hp with rfl | hp
            · exact Nat.ne_of_gt (Nat.lt_succ_self I)
            · exact Nat.ne_of_lt (nlt p hp)
          · rcases List.mem_cons.mp hp with rfl | hp
            · exact Nat.ne_of_lt (Nat.lt_succ_self (I + 1))
            · exact Nat.ne_of_lt (Nat.lt_succ_of_lt (Nat.lt_succ_of_lt (nlt p hp)))
        have keepI : ∀ b o, b ≠ I + 2 → h₂.get? b = some o → h₆.get? b = some o := fun b o b2 e => hs₆.extBut b o b2 (hs₅.extBut b o b2 (hs₄.extBut b o b2 (up3 b o e)))
        obtain ⟨oI, heI, hcI, hdI⟩ := hst₂.1
        have heI₆ : h₆.get? I = some oI := keepI _ _ (Ne.symm cI) heI
        obtain ⟨oC, heC, hoC⟩ := ns_obj hn₆
        have N₆' : News h₀ L h₆ ((I, oI) :: (I + 2, oC) :: (I + 1, lst ys) :: news) := fun p hp => by
          rcases List.mem_cons.mp hp with rfl | hp
          · exact ⟨heI₆, Nat.ne_of_gt hLI, new0 _ (Nat.le_refl _)⟩
          rcases List.mem_cons.mp hp with rfl | hp
          · exact ⟨heC, Nat.ne_of_gt cL, new0 _ (Nat.le_add_right _ _)⟩
          exact N₆ p hp
        refine wpAny_mono (go I oI (I + 2) oC (I + 1) ys _ h₆ _ _ hoC (by simp [hxy, hxz]) F₆ N₆') (fun ok s₇ h₇ => ?_) fun _ _ e => e
        obtain ⟨hok, g, tg, rfl, Fg, Ng⟩ := h₇
        have NgD : News h₀ L g ((I + 1, lst ys) :: news) := fun p hp => Ng p (List.mem_cons_of_mem _ (List.mem_cons_of_mem _ hp))
        have gI := (Ng _ List.mem_cons_self).1
        have gC := (Ng _ (List.mem_cons_of_mem _ List.mem_cons_self)).1
        have lst_g : ∀ g' : Heap, News h₀ L g' news → g'.IsList ax its := fun g' Ng' => ⟨_, (Ng' _ hm).1, rfl, n, rfl⟩
        cases ok with
        | true =>
          simp only [if_true]
          refine wpAny_Constant_int ?_
          refine append_at (hsz := by show ys.toArray.size ≤ sizeLine; rw [List.size_toArray, hyl, sizeLine_eq]; have := cnt_le q i; omega) (NgD _ List.mem_cons_self).1 fun g' hsg hDg => ?_
          have NgN : News h₀ L g' news := fun p hp => ⟨hsg.extBut _ _ (Nat.ne_of_lt (Nat.lt_succ_of_lt (nlt p hp))) (NgD p (List.mem_cons_of_mem _ hp)).1, (NgD p (List.mem_cons_of_mem _ hp)).2⟩
          refine ⟨its.size + 1 - (i + 1), by omega, g', _, i + 1, ys ++ [.int 1 tg], _, rfl, hlt', rfl, by rw [List.length_append, hyl, cnt_yes hok.symm]; rfl, hones.snoc tg, ⟨⟨oI, hsg.extBut _ _ (Nat.ne_of_lt (Nat.lt_succ_self I)) gI, hcI, hdI⟩, lst_g g' NgN⟩,
            Fg.change hsg dL (new0 _ (Nat.le_succ _)), (hoC.ns gC).sameBut hsg (Nat.ne_of_gt (Nat.lt_succ_self (I + 1))), fun p hp => ?_⟩
          rcases List.mem_cons.mp hp with rfl | hp
          · exact ⟨hDg.trans (congrArg some (lst_snoc ys _)), dL, new0 _ (Nat.le_succ _)⟩
          · exact NgN p hp
        | false =>
          simp only [Bool.false_eq_true, if_false]
          exact ⟨its.size + 1 - (i + 1), by omega, g, tg, i + 1, ys, _, rfl, hlt', rfl, by rw [hyl, cnt_no hok.symm], hones, ⟨⟨oI, gI, hcI, hdI⟩, lst_g g fun p hp => NgD p (List.mem_cons_of_mem _ hp)⟩, Fg, hoC.ns gC, NgD⟩
      · obtain rfl : i = its.size := Nat.le_antisymm hi (Nat.not_lt.mp hlt')
        refine W.done _ _ _ hst' fun h₂ tk₂ hk₂ => ?_
        have F₂ : Fr h₀ L h₂ m := fr_but F' hk₂ (Nat.ne_of_lt hLI) (new0 _ (Nat.le_refl _))
        have N₂ : News h₀ L h₂ ((I + 1, lst ys) :: news) := news_but N' hk₂ fun p hp => by
          rcases List.mem_cons.mp hp with rfl | hp
          · exact Nat.ne_of_gt (Nat.lt_succ_self I)
          · exact Nat.ne_of_lt (nlt p hp)
        refine ⟨m', hn'.at' fun o e => hk₂ _ o (fun hm9 => cI (List.mem_singleton.mp hm9)) e, fun h'' hs'' => ?_⟩
        refine fin (I + 1) ys h'' tk₂ hyl hones (F₂.change hs'' (Nat.ne_of_gt cL) (new0 _ (Nat.le_add_right _ _))) (fun p hp => ?_) fun p hp => Nat.lt_succ_of_lt (nlt p hp)
        refine ⟨hs''.extBut _ _ ?_ (N₂ p hp).1, (N₂ p hp).2⟩
        rcases List.mem_cons.mp hp with rfl | hp
        · exact Nat.ne_of_lt (Nat.lt_succ_self (I + 1))
        · exact Nat.ne_of_lt (Nat.lt_succ_of_lt (Nat.lt_succ_of_lt (nlt p hp)))
    · obtain ⟨o, e1, e2, e3⟩ := itI
      exact ⟨o, old _ _ e1, e2, e3⟩
    · exact ⟨_, old _ _ (up1 _ _ (N _ hm).1), rfl, n, rfl⟩
    · intro p hp
      rcases List.mem_cons.mp hp with rfl | hp
      · exact ⟨accD, dL, new0 _ (Nat.le_succ _)⟩
      · exact ⟨old _ _ (up1 _ _ (N p hp).1), (N p hp).2⟩
  refine codeAny_compStart_list (loop _ rfl) (W.self 0 _ _ _ ⟨?_, ?_⟩ (loop _ rfl))
  · obtain ⟨o, e1, e2, e3⟩ := itI
    exact ⟨o, old _ _ e1, e2, e3⟩
  · exact ⟨_, old _ _ (up1 _ _ (N _ hm).1), rfl, n, rfl⟩
end
end PartComp3
end Mine

namespace Mine
section PartBegins
open PySem PySem.W PySem.Calls PyProof.Rows PySem.Builtin PyProof.Rows.LCg
set_option maxRecDepth 100000
set_option maxHeartbeats 1000000
local macro_rules | `(tactic| walk_at $s:str) => `(tactic| k_extra $s)
local macro_rules | `(tactic| k_all) => `(tactic| assumption)
-- entering a def of the text that keeps a cell
local macro_rules | `(tactic| walk_at "MINE enterC") => `(tactic| (refine' code_defC ?k1 ?k2 ?k3 ?k4 ?k5 ?kA ?kF ?kK ?k6 ?k7 ?k8 ?k9 ?kB ?kD ?_ ?c2 ?c3 ?c4; (case kA => exact rfl); (case kF => exact rfl); (case kK => assumption); (case k1 => k_asm); (case k2 => k_asm); (case k3 => k_asm); (case k4 => k_asm); (case k5 => k_asm); (case k6 => k_is); (case k7 => k_is); (case k8 => ktr_room); (case k9 => first | exact BindsTo.of_eq rfl | exact binds_K (by k_in) rfl (by k_is) rfl rfl rfl); (case kB => exact rfl); (case kD => decide +kernel); (case c2 => exact rfl); (case c3 => exact rfl); (case c4 => exact rfl); k_whole; intro g' L' h' tk' cells' FG' F' N' Y' B' X' T' l1; k_cells Y'; (try simp only [List.cons_append, List.nil_append] at N'); (try dsimp only); (try k_fold)))

theorem begins_call {w : World} {mean : ExcName → Option Value} {mg mb : Str → Option Value} (b mk : Array UInt8) (tb tm : Tok) (hks : (KBw.bInts b).length ≤ 1000) (hms : (KBw.bInts mk).length ≤ 1000) (hm0 : 0 < mk.size)
    (dp un : Nat) (gd : Option (List Code)) (cn : Str) (cs : Scope) (a : Addr) (ccd : Value) (cl : List (Str × Addr)) (outer : List Env) (A₀ : Around) (base h₀ : Heap) (L : Addr) (m : Str → Option Value) (news : List (Addr × Obj)) (s : Shared) (Q E : Value → Shared → Prop)
    (B : Below A₀ base outer h₀) (F : Fr h₀ L s.heap m) (X : (hd.heap_39 w.params).In h₀) (N : News h₀ L s.heap news)
    (T : Top hd.view_39 (looseW hd.view_39 [Str.ofString "line_spans"]) mean mg mb h₀) (hk : cs.kind = .function) (hd : dp + 2 < recursionLimit) (hu : un + 100 < cLine)
    (hret : ∀ h' tk', Fr h₀ L h' m → News h₀ L h' news → Q (.bool (hind b mk)) { s with heap := h', toks := tk' }) :
    wpAny (model Challenge.rw_no0345_01.row.prog w) (ktrTop dp un gd cn cs L a ccd cl outer) (call (.ref 27) [.bytes b tb, .bytes mk tm]) Q E s := by
  k_with_none; w_top off
  revert X; k_fill; intro X
  have hb : KBw.bInts b = KBw.bInts b := rfl
  have hm : KBw.bInts mk = KBw.bInts mk := rfl
  refine wpAny_call ?_
  k_dflt walk_at "MINE enterC"
  k_with_none
  rename Fr _ _ _ _ => lF0
  rename_i g₁ L₁ h₁ tk₁ FG₁ B₁ X₁ T₁ l₁ o₁ o₂ d₁ d₂ N₁
  have lF : Fr g₁ L₁ h₁ (fun _ => none) := by with_unfolding_all exact lF0
  have e₁ : o₁.data = .cell (some (.bytes mk tm)) := by with_unfolding_all exact d₁
  have e₂ : o₂.data = .cell (some (.bytes b tb)) := by with_unfolding_all exact d₂
  clear lF0 d₁ d₂
  iterate 3 walk1
  refine comp3 (x := Str.ofString "first") (h₀ := g₁) (L := L₁) (m := fun _ => none) (qOf (starts b b.size) fun f => cut b f mk.size == mk.toList)
    (by k_asm) (by with_unfolding_all rfl) (by decide) (by rfl) (by decide) (by rfl) (by rfl) (by rfl) (by decide) (by decide) (by rfl) ?_
  k_with "call ref" => k_dflt (
    (refine spans_call _ _ hks _ _ _ _ _ _ _ _ _ _ _ _ _ _ _ _ _ _ (by k_asm) (by k_asm) (by k_asm) (by k_asm) (by k_asm) rfl hd ?_);
    (intro D its nD tups h' tk' kF kN hsp hlD hgD))
  iterate 8 walk1
  have hsz : its.size ≤ 1000 := by
    have h1 := hsp.1
    rw [Array.length_toList] at h1
    have h2 : (starts b b.size).length ≤ b.size := by
      unfold starts
      exact Nat.le_trans (List.length_filter_le _ _) (by rw [List.length_range]; exact Nat.le_refl _)
    have h3 := KBw.ints_length b
    omega
  have kN2 : News g₁ L₁ h' ((L₁ + 1 + 1, o₁) :: (L₁ + 1, o₂) :: (D, listOf its nD) :: (tups ++ news)) := fun p hp => kN p (by
    simp only [List.mem_cons, List.mem_append] at hp ⊢
    rcases hp with q | q | q | q | q <;> simp [q])
  refine ⟨D, its, nD, _, rfl, kF, kN2, List.mem_cons_of_mem _ (List.mem_cons_of_mem _ List.mem_cons_self), hsz, ?_, ?_⟩
  · intro i v hv
    obtain ⟨a', f, x', y', t', u', z', n', hf, rfl, hmem⟩ := hsp.2 i v (by rw [Array.getElem?_toList]; exact hv)
    refine ⟨a', _, _, _, n', rfl, List.mem_cons_of_mem _ (List.mem_cons_of_mem _ (List.mem_cons_of_mem _ (List.mem_append_left _ hmem))), ?_⟩
    intro I oI C oC D' ys m₂ hh tk2 E' hC hx F' N'
    clear kF kN kN2
    dsimp only
    k_steps
    · unfold qOf
      rw [hf, KBw.ints_length]
      dsimp only
      have hfb : f < b.size := by
        have h9 := List.mem_of_getElem? hf
        unfold starts at h9
        rw [List.mem_filter, List.mem_range] at h9
        exact h9.1
      rw [cut_picked b (f : Int) mk.size (by omega) (by omega), Int.toNat_natCast]
    · assumption
    · assumption
  · intro D' ys hh tk2 hyl hones F' N' hlt
    dsimp only
    have hsl : its.size = (starts b b.size).length := by rw [← Array.length_toList]; exact hsp.1
    k_with "compareOp NotEq ref ref" => k_dflt (refine ne_intsK ⟨_, (News.here (by k_asm) (by k_mem)), rfl, _, rfl⟩ hones.ints (us := []) ⟨_, (News.here (by k_asm) (by k_mem)), rfl, _, rfl⟩ .nil (by ktr_units) ?_)
    k_steps
    rw [hyl, hsl, cnt_any, ← hind_starts hm0]
    rename News _ _ _ _ => kN9
    exact hret _ _ (by assumption) fun p hp => kN9 p (by simp only [List.mem_cons, List.mem_append]; simp [hp])
end PartBegins
end Mine

namespace Mine
section PartComp1
open PySem PySem.W PySem.Calls PyProof.Rows PySem.Builtin PyProof.Rows.LCg PySem.Spec
set_option maxHeartbeats 4000000
section
variable {prog : Program} {w : World} {A : Around} {E : Value → Shared → Prop} {s : Shared} {h₀ : Heap} {L : Addr} {m : Str → Option Value} {env : Env}

/-- what the iterable of a comprehension over one name must come to -/
def Src1 (prog : Program) (w : World) (A : Around) (h₀ : Heap) (L : Addr) (m : Str → Option Value) (env : Env) (c : PySem.Expr) (x : Str) (scope : Scope) (cl : List (Str × Addr)) (q : Nat → Bool) (Q : Value → Shared → Prop) (xv : Value) (s₁ : Shared) : Prop :=
  ∃ (ax : Addr) (its : Array Value) (n : Nat) (news : List (Addr × Obj)), xv = .ref ax ∧ Fr h₀ L s₁.heap m ∧ News h₀ L s₁.heap news ∧ (ax, listOf its n) ∈ news ∧ its.size ≤ 1000 ∧
    (∀ (i : Nat) (v : Value), its[i]? = some v →
      ∀ (I : Addr) (oI : Obj) (C : Addr) (oC : Obj) (D : Addr) (ys : List Value) (m₂ : Str → Option Value) (h : Heap) (tk : Nat) (E' : Value → Shared → Prop), NsObj oC m₂ → m₂ x = some v → Fr h₀ L h m → News h₀ L h ((I, oI) :: (C, oC) :: (D, lst ys) :: news) →
        wpAny (model prog w) A (isTrue c (compEnvC scope cl C env) (eval c (compEnvC scope cl C env)))
          (fun ok s' => ok = q i ∧ ∃ h' tk', s' = { s₁ with heap := h', toks := tk' } ∧ Fr h₀ L h' m ∧ News h₀ L h' ((I, oI) :: (C, oC) :: (D, lst ys) :: news)) E' { s₁ with heap := h, toks := tk }) ∧
    (∀ (D : Addr) (ys : List Value) (h : Heap) (tk : Nat), ys.length = cnt q its.size → Ones ys → Fr h₀ L h m → News h₀ L h ((D, lst ys) :: news) → (∀ p ∈ news, p.1 < D) → Q (.ref D) { s₁ with heap := h, toks := tk })

theorem comp1 {iter c : PySem.Expr} {pe px pos : Pos} {x : Str} {scope : Scope} {cl : List (Str × Addr)} {Q : Value → Shared → Prop} (q : Nat → Bool)
    (_F₀ : Fr h₀ L s.heap m) (hclos : closureFor scope env = pure cl) (hcell : ∀ y ∈ scope.names, y.2 ≠ .cell) (hkind : scope.kind = .function)
    (hnames : ∀ y ∈ scope.names, y.2 = .local → scope.names.lookup y.1 = some .local) (hx : scope.names.lookup x = some .local)
    (hh : A.handled = none)
    (h : wpAny (model prog w) A (eval iter env) (Src1 prog w A h₀ L m env c x scope cl q Q) E s)
    (hs : ∀ x, foldedSetIterable iter env x = pure x := by intro _; rfl) :
    wpAny (model prog w) A (eval (.ListComp (.Constant (.int 1) 0 pe) [⟨.Name x px, iter, [c], 0⟩] scope pos) env) Q E s := by
  rw [eval_ListComp]
  refine wpAny_comprehension_free (use := none) rfl hs hclos hkind hnames (wpAny_mono h (fun xv s₁ h₁ => ?_) fun _ _ e => e)
  obtain ⟨ax, its, n, news, rfl, F, N, hm, hsz, turn, fin⟩ := h₁
  have hl : s₁.heap.IsList ax its := ⟨_, (N _ hm).1, rfl, n, rfl⟩
  have hlt : ax < s₁.heap.objs.size := Heap.lt_size (N _ hm).1
  refine wpAny_pyIter_list hl ?_
  -- the iterator is I, the new list D, the block's own table C
  generalize hI : s₁.heap.objs.size = I at *
  generalize hg1 : s₁.heap.push { cls := .type "list_iterator", data := .fields #[.ref ax, .int 0 0] } = g1
  have sz1 : g1.objs.size = I + 1 := by rw [← hg1, Heap.size_push, hI]
  have up1 : ∀ b o, s₁.heap.get? b = some o → g1.get? b = some o := fun b o e => hg1 ▸ Heap.get?_push_of_some _ e
  have itI : g1.IsListIter I ax 0 := ⟨_, by rw [← hg1, ← hI]; exact Heap.get?_push_size _ rfl, rfl, rfl⟩
  refine wpAny_newObj_type (wpAny_newFunctionEnv hcell (by intro y hy; simp at hy) (fun h₁ hns₁ hsb₁ => ?_) hkind)
  dsimp only at hns₁ hsb₁ ⊢
  generalize hg2 : g1.push { cls := .type "list", dict := none, data := .seq ([] : List Value).toArray } = g2 at hns₁ hsb₁ ⊢
  rw [sz1]
  have sz2 : g2.objs.size = I + 2 := by rw [← hg2, Heap.size_push, sz1]
  rw [sz2] at hns₁ hsb₁ ⊢
  have new0 : ∀ a, I ≤ a → h₀.get? a = none := fun a ha => by
    cases e : h₀.get? a with
    | none => rfl
    | some o' => exact absurd (Heap.lt_size (F.keep a o' e)) (by rw [hI]; exact Nat.not_lt.mpr ha)
  have hLI : L < I := hI ▸ F.ns.lt
  have nlt : ∀ p ∈ news, p.1 < I := fun p hp => hI ▸ Heap.lt_size (N p hp).1
  have cI : @Ne Addr (I + 2) I := Nat.ne_of_gt (Nat.lt_succ_of_lt (Nat.lt_succ_self I))
  have cL : @LT.lt Nat _ L (I + 2) := Nat.lt_succ_of_lt (Nat.lt_succ_of_lt hLI)
  have dL : @Ne Addr (I + 1) L := Nat.ne_of_gt (Nat.lt_succ_of_lt hLI)
  have old : ∀ b o, g1.get? b = some o → h₁.get? b = some o := fun b o e => hsb₁.extBut b o (by have h9 := Heap.lt_size e; rw [sz1] at h9; exact Nat.ne_of_lt (Nat.lt_succ_of_lt h9)) (Heap.get?_push_of_some _ (hg2 ▸ Heap.get?_push_of_some _ e))
  have accD : h₁.get? (I + 1) = some (lst []) := hsb₁.extBut _ _ (Nat.ne_of_lt (Nat.lt_succ_self (I + 1))) (Heap.get?_push_of_some _ (by rw [← hg2, ← sz1]; exact Heap.get?_push_size _ rfl))
  have F₁ : Fr h₀ L h₁ m := F.keeps fun b o e => old b o (up1 b o e)
  have W := Walks.list (prog := prog) (w := w) (A := A) hh I ax (Nat.ne_of_lt hlt) its
  have loop : ∀ s₃ : Shared, s₃ = { s₁ with heap := h₁, toks := s₁.toks + ([] : List (Str × Value)).length } →
      codeAny (model prog w) A (.compLoop (.ListComp (.Constant (.int 1) 0 pe) [⟨.Name x px, iter, [c], 0⟩] scope pos) 0 (.ref I) (.ref (I + 1)) (compEnvC scope cl (I + 2) env)) (compPost (model prog w) A E none Q (.ref (I + 1)) (I + 2)) s₃ := by
    rintro s₃ rfl
    refine kct_loop
      (fun k s' => ∃ h' tk i ys m', s' = { s₁ with heap := h', toks := tk } ∧ i ≤ its.size ∧ k = its.size + 1 - i ∧ ys.length = cnt q i ∧ Ones ys ∧ (h'.IsListIter I ax i ∧ h'.IsList ax its) ∧ Fr h₀ L h' m ∧ h'.Ns (I + 2) m' ∧ News h₀ L h' ((I + 1, lst ys) :: news)) ?_ (its.size + 1)
      ⟨h₁, _, 0, [], _, rfl, Nat.zero_le _, rfl, rfl, Ones.nil, ⟨?_, ?_⟩, F₁, hns₁, ?_⟩
    · rintro k s' ⟨h', tk, i, ys, m', rfl, hi, rfl, hyl, hones, hst', F', hn', N'⟩
      by_cases hlt' : i < its.size
      · refine W.item i _ _ _ hlt' hst' fun v h₂ tk₂ hPv hst₂ hk₂ => ?_
        have go := turn i v hPv
        have up2 : ∀ b o, b ≠ I → h'.get? b = some o → h₂.get? b = some o := fun b o hb e => hk₂ b o (by simpa using hb) e
        have hn₂ : h₂.Ns (I + 2) m' := hn'.at' fun o e => up2 _ o cI e
        refine wpAny_of_eq (a := ()) rfl ?_
        refine wpAny_assign_Name (wpAny_storeName_local (lookup_relabel_local hx) hn₂ (fun h₆ hn₆ hs₆ => ?_) (by simp [compEnvC, relabel, hkind]))
        have up6 : ∀ b o, b ≠ I → b ≠ I + 2 → h'.get? b = some o → h₆.get? b = some o := fun b o b1 b2 e => hs₆.extBut b o b2 (up2 b o b1 e)
        have F₆ : Fr h₀ L h₆ m := ⟨F'.ns.at' fun o e => up6 _ o (Nat.ne_of_lt hLI) (Nat.ne_of_lt cL) e, fun b o e => up6 b o (fun eb => by rw [eb, new0 I (Nat.le_refl _)] at e; cases e) (fun eb => by rw [eb, new0 (I + 2) (Nat.le_add_right _ _)] at e; cases e) (F'.keep b o e), F'.above⟩
        have N₆ : News h₀ L h₆ ((I + 1, lst ys) :: news) := fun p hp => by
          refine ⟨up6 _ _ ?_ ?_ (N' p hp).1, (N' p hp).2⟩
          · rcases List.mem_cons.mp hp with rfl | hp
            · exact Nat.ne_of_gt (Nat.lt_succ_self I)
            · exact Nat.ne_of_lt (nlt p hp)
          · rcases List.mem_cons.mp hp with rfl | hp
            · exact Nat.ne_of_lt (Nat.lt_succ_self (I + 1))
            · exact Nat.ne_of_lt (Nat.lt_succ_of_lt (Nat.lt_succ_of_lt (nlt p hp)))
        have keepI : ∀ b o, b ≠ I + 2 → h₂.get? b = some o → h₆.get? b = some o := fun b o b2 e => hs₆.extBut b o b2 e
        obtain ⟨oI, heI, hcI, hdI⟩ := hst₂.1
        have heI₆ : h₆.get? I = some oI := keepI _ _ (Ne.symm cI) heI
        obtain ⟨oC, heC, hoC⟩ := ns_obj hn₆
        have N₆' : News h₀ L h₆ ((I, oI) :: (I + 2, oC) :: (I + 1, lst ys) :: news) := fun p hp => by
          rcases List.mem_cons.mp hp with rfl | hp
          · exact ⟨heI₆, Nat.ne_of_gt hLI, new0 _ (Nat.le_refl _)⟩
          rcases List.mem_cons.mp hp with rfl | hp
          · exact ⟨heC, Nat.ne_of_gt cL, new0 _ (Nat.le_add_right _ _)⟩
          exact N₆ p hp
        refine wpAny_mono (go I oI (I + 2) oC (I + 1) ys _ h₆ _ _ hoC (by simp) F₆ N₆') (fun ok s₇ h₇ => ?_) fun _ _ e => e
        obtain ⟨hok, g, tg, rfl, Fg, Ng⟩ := h₇
        have NgD : News h₀ L g ((I + 1, lst ys) :: news) := fun p hp => Ng p (List.mem_cons_of_mem _ (List.mem_cons_of_mem _ hp))
        have gI := (Ng _ List.mem_cons_self).1
        have gC := (Ng _ (List.mem_cons_of_mem _ List.mem_cons_self)).1
        have lst_g : ∀ g' : Heap, News h₀ L g' news → g'.IsList ax its := fun g' Ng' => ⟨_, (Ng' _ hm).1, rfl, n, rfl⟩
        cases ok with
        | true =>
          simp only [if_true]
          refine wpAny_Constant_int ?_
          refine append_at (hsz := by show ys.toArray.size ≤ sizeLine; rw [List.size_toArray, hyl, sizeLine_eq]; have := cnt_le q i; omega) (NgD _ List.mem_cons_self).1 fun g' hsg hDg => ?_
          have NgN : News h₀ L g' news := fun p hp => ⟨hsg.extBut _ _ (Nat.ne_of_lt (Nat.lt_succ_of_lt (nlt p hp))) (NgD p (List.mem_cons_of_mem _ hp)).1, (NgD p (List.mem_cons_of_mem _ hp)).2⟩
          refine ⟨its.size + 1 - (i + 1), by omega, g', _, i + 1, ys ++ [.int 1 tg], _, rfl, hlt', rfl, by rw [List.length_append, hyl, cnt_yes hok.symm]; rfl, hones.snoc tg, ⟨⟨oI, hsg.extBut _ _ (Nat.ne_of_lt (Nat.lt_succ_self I)) gI, hcI, hdI⟩, lst_g g' NgN⟩,
            Fg.change hsg dL (new0 _ (Nat.le_succ _)), (hoC.ns gC).sameBut hsg (Nat.ne_of_gt (Nat.lt_succ_self (I + 1))), fun p hp => ?_⟩
          rcases List.mem_cons.mp hp with rfl | hp
          · exact ⟨hDg.trans (congrArg some (lst_snoc ys _)), dL, new0 _ (Nat.le_succ _)⟩
          · exact NgN p hp
        | false =>
          simp only [Bool.false_eq_true, if_false]
          exact ⟨its.size + 1 - (i + 1), by omega, g, tg, i + 1, ys, _, rfl, hlt', rfl, by rw [hyl, cnt_no hok.symm], hones, ⟨⟨oI, gI, hcI, hdI⟩, lst_g g fun p hp => NgD p (List.mem_cons_of_mem _ hp)⟩, Fg, hoC.ns gC, NgD⟩
      · obtain rfl : i = its.size := Nat.le_antisymm hi (Nat.not_lt.mp hlt')
        refine W.done _ _ _ hst' fun h₂ tk₂ hk₂ => ?_
        have F₂ : Fr h₀ L h₂ m := fr_but F' hk₂ (Nat.ne_of_lt hLI) (new0 _ (Nat.le_refl _))
        have N₂ : News h₀ L h₂ ((I + 1, lst ys) :: news) := news_but N' hk₂ fun p hp => by
          rcases List.mem_cons.mp hp with rfl | hp
          · exact Nat.ne_of_gt (Nat.lt_succ_self I)
          · exact Nat.ne_of_lt (nlt p hp)
        refine ⟨m', hn'.at' fun o e => hk₂ _ o (fun hm9 => cI (List.mem_singleton.mp hm9)) e, fun h'' hs'' => ?_⟩
        refine fin (I + 1) ys h'' tk₂ hyl hones (F₂.change hs'' (Nat.ne_of_gt cL) (new0 _ (Nat.le_add_right _ _))) (fun p hp => ?_) fun p hp => Nat.lt_succ_of_lt (nlt p hp)
        refine ⟨hs''.extBut _ _ ?_ (N₂ p hp).1, (N₂ p hp).2⟩
        rcases List.mem_cons.mp hp with rfl | hp
        · exact Nat.ne_of_lt (Nat.lt_succ_self (I + 1))
        · exact Nat.ne_of_lt (Nat.lt_succ_of_lt (Nat.lt_succ_of_lt (nlt p hp)))
    · obtain ⟨o, e1, e2, e3⟩ := itI
      exact ⟨o, old _ _ e1, e2, e3⟩
    · exact ⟨_, old _ _ (up1 _ _ (N _ hm).1), rfl, n, rfl⟩
    · intro p hp
      rcases List.mem_cons.mp hp with rfl | hp
      · exact ⟨accD, dL, new0 _ (Nat.le_succ _)⟩
      · exact ⟨old _ _ (up1 _ _ (N p hp).1), (N p hp).2⟩
  refine codeAny_compStart_list (loop _ rfl) (W.self 0 _ _ _ ⟨?_, ?_⟩ (loop _ rfl))
  · obtain ⟨o, e1, e2, e3⟩ := itI
    exact ⟨o, old _ _ e1, e2, e3⟩
  · exact ⟨_, old _ _ (up1 _ _ (N _ hm).1), rfl, n, rfl⟩
theorem eq_ones {α : Type} {fs : List α} {p : α → Bool} {a b : Addr} {ys : List Value} {n : Nat} {Q : Value → Shared → Prop} (hl : s.heap.IsList a ys.toArray) (ho : Ones ys) (hl' : s.heap.IsList b #[])
    (hy : ys.length = cnt (qOf fs p) n) (hn : n = fs.length) (hu : A.units + 64 < cLine) (h : Q (.bool (!fs.any p)) s) : wpAny (model prog w) A (compareOp .Eq (.ref a) (.ref b)) Q E s := by
  subst hn
  refine eq_intsK hl ho.ints (us := []) hl' .nil hu ?_
  rw [hy, cnt_none]
  exact h
theorem ne_ones {α : Type} {fs : List α} {p : α → Bool} {a b : Addr} {ys : List Value} {n : Nat} {Q : Value → Shared → Prop} (hl : s.heap.IsList a ys.toArray) (ho : Ones ys) (hl' : s.heap.IsList b #[])
    (hy : ys.length = cnt (qOf fs p) n) (hn : n = fs.length) (hu : A.units + 64 < cLine) (h : Q (.bool (fs.any p)) s) : wpAny (model prog w) A (compareOp .NotEq (.ref a) (.ref b)) Q E s := by
  subst hn
  refine ne_intsK hl ho.ints (us := []) hl' .nil hu ?_
  rw [hy, cnt_any]
  exact h
end
end PartComp1
end Mine

namespace Mine
section PartCompS
open PySem PySem.W PySem.Calls PyProof.Rows PySem.Builtin PyProof.Rows.LCg PySem.Spec
set_option maxHeartbeats 4000000
section
variable {prog : Program} {w : World} {A : Around} {E : Value → Shared → Prop} {s : Shared} {h₀ : Heap} {L : Addr} {m : Str → Option Value} {env : Env}

/-- what the iterable of a comprehension over a text must come to, each sign giving its number -/
def SrcS (prog : Program) (w : World) (A : Around) (h₀ : Heap) (L : Addr) (m : Str → Option Value) (env : Env) (elt : PySem.Expr) (x : Str) (scope : Scope) (cl : List (Str × Addr)) (Q : Value → Shared → Prop) (xv : Value) (s₁ : Shared) : Prop :=
  ∃ (X : Str) (tX : Tok) (news : List (Addr × Obj)), xv = .str X tX ∧ X.cps.all (· < 128) = true ∧ Fr h₀ L s₁.heap m ∧ News h₀ L s₁.heap news ∧ X.cps.size ≤ 1000 ∧
    (∀ (i : Nat) (c : Nat) (u : Tok), X.cps[i]? = some c →
      ∀ (I : Addr) (oI : Obj) (C : Addr) (oC : Obj) (D : Addr) (ys : List Value) (m₂ : Str → Option Value) (h : Heap) (tk : Nat) (E' : Value → Shared → Prop), NsObj oC m₂ → m₂ x = some (.str ⟨#[c]⟩ u) → Fr h₀ L h m → News h₀ L h ((I, oI) :: (C, oC) :: (D, lst ys) :: news) →
        wpAny (model prog w) A (eval elt (compEnvC scope cl C env))
          (fun y s' => (∃ t, y = .int (c : Int) t) ∧ ∃ h' tk', s' = { s₁ with heap := h', toks := tk' } ∧ Fr h₀ L h' m ∧ News h₀ L h' ((I, oI) :: (C, oC) :: (D, lst ys) :: news)) E' { s₁ with heap := h, toks := tk }) ∧
    (∀ (D : Addr) (ys : List Value) (h : Heap) (tk : Nat), IntsAre ys (X.cps.toList.map fun (c : Nat) => (c : Int)) → Fr h₀ L h m → News h₀ L h ((D, lst ys) :: news) → (∀ p ∈ news, p.1 < D) → Q (.ref D) { s₁ with heap := h, toks := tk })
theorem ints_snoc {k : Int} {t : Tok} : ∀ {vs : List Value} {ns : List Int}, IntsAre vs ns → IntsAre (vs ++ [.int k t]) (ns ++ [k])
  | _, _, .nil => .cons k t .nil
  | _, _, .cons a b r => .cons a b (ints_snoc r)

theorem compS {iter elt : PySem.Expr} {px pos : Pos} {x : Str} {scope : Scope} {cl : List (Str × Addr)} {Q : Value → Shared → Prop}
    (_F₀ : Fr h₀ L s.heap m) (hclos : closureFor scope env = pure cl) (hcell : ∀ y ∈ scope.names, y.2 ≠ .cell) (hkind : scope.kind = .function)
    (hnames : ∀ y ∈ scope.names, y.2 = .local → scope.names.lookup y.1 = some .local) (hx : scope.names.lookup x = some .local)
    (hh : A.handled = none)
    (h : wpAny (model prog w) A (eval iter env) (SrcS prog w A h₀ L m env elt x scope cl Q) E s)
    (hs : ∀ x, foldedSetIterable iter env x = pure x := by intro _; rfl) :
    wpAny (model prog w) A (eval (.ListComp elt [⟨.Name x px, iter, [], 0⟩] scope pos) env) Q E s := by
  rw [eval_ListComp]
  refine wpAny_comprehension_free (use := none) rfl hs hclos hkind hnames (wpAny_mono h (fun xv s₁ h₁ => ?_) fun _ _ e => e)
  obtain ⟨X, tX, news, rfl, hasc, F, N, hsz, turn, fin⟩ := h₁
  refine wpAny_pyIter_ascii hasc ?_
  -- the iterator is I, the new list D, the block's own table C
  generalize hI : s₁.heap.objs.size = I at *
  generalize hg1 : s₁.heap.push { cls := .type "str_ascii_iterator", data := .fields #[.str X tX, .int 0 0] } = g1
  have sz1 : g1.objs.size = I + 1 := by rw [← hg1, Heap.size_push, hI]
  have up1 : ∀ b o, s₁.heap.get? b = some o → g1.get? b = some o := fun b o e => hg1 ▸ Heap.get?_push_of_some _ e
  have itI : g1.IsStrIter I "str_ascii_iterator" X tX 0 := ⟨_, by rw [← hg1, ← hI]; exact Heap.get?_push_size _ rfl, rfl, rfl⟩
  refine wpAny_newObj_type (wpAny_newFunctionEnv hcell (by intro y hy; simp at hy) (fun h₁ hns₁ hsb₁ => ?_) hkind)
  dsimp only at hns₁ hsb₁ ⊢
  generalize hg2 : g1.push { cls := .type "list", dict := none, data := .seq ([] : List Value).toArray } = g2 at hns₁ hsb₁ ⊢
  rw [sz1]
  have sz2 : g2.objs.size = I + 2 := by rw [← hg2, Heap.size_push, sz1]
  rw [sz2] at hns₁ hsb₁ ⊢
  have new0 : ∀ a, I ≤ a → h₀.get? a = none := fun a ha => by
    cases e : h₀.get? a with
    | none => rfl
    | some o' => exact absurd (Heap.lt_size (F.keep a o' e)) (by rw [hI]; exact Nat.not_lt.mpr ha)
  have hLI : L < I := hI ▸ F.ns.lt
  have nlt : ∀ p ∈ news, p.1 < I := fun p hp => hI ▸ Heap.lt_size (N p hp).1
  have cI : @Ne Addr (I + 2) I := Nat.ne_of_gt (Nat.lt_succ_of_lt (Nat.lt_succ_self I))
  have cL : @LT.lt Nat _ L (I + 2) := Nat.lt_succ_of_lt (Nat.lt_succ_of_lt hLI)
  have dL : @Ne Addr (I + 1) L := Nat.ne_of_gt (Nat.lt_succ_of_lt hLI)
  have old : ∀ b o, g1.get? b = some o → h₁.get? b = some o := fun b o e => hsb₁.extBut b o (by have h9 := Heap.lt_size e; rw [sz1] at h9; exact Nat.ne_of_lt (Nat.lt_succ_of_lt h9)) (Heap.get?_push_of_some _ (hg2 ▸ Heap.get?_push_of_some _ e))
  have accD : h₁.get? (I + 1) = some (lst []) := hsb₁.extBut _ _ (Nat.ne_of_lt (Nat.lt_succ_self (I + 1))) (Heap.get?_push_of_some _ (by rw [← hg2, ← sz1]; exact Heap.get?_push_size _ rfl))
  have F₁ : Fr h₀ L h₁ m := F.keeps fun b o e => old b o (up1 b o e)
  have W := Walks.strAscii (prog := prog) (w := w) (A := A) hh I X tX
  have loop : ∀ s₃ : Shared, s₃ = { s₁ with heap := h₁, toks := s₁.toks + ([] : List (Str × Value)).length } →
      codeAny (model prog w) A (.compLoop (.ListComp elt [⟨.Name x px, iter, [], 0⟩] scope pos) 0 (.ref I) (.ref (I + 1)) (compEnvC scope cl (I + 2) env)) (compPost (model prog w) A E none Q (.ref (I + 1)) (I + 2)) s₃ := by
    rintro s₃ rfl
    refine codeAny_compLoop_list
      (fun k s' => ∃ h' tk i ys m', s' = { s₁ with heap := h', toks := tk } ∧ i ≤ X.cps.size ∧ k = X.cps.size + 1 - i ∧ ys.length = i ∧ IntsAre ys ((X.cps.toList.take i).map fun (c : Nat) => (c : Int)) ∧ h'.IsStrIter I "str_ascii_iterator" X tX i ∧ Fr h₀ L h' m ∧ h'.Ns (I + 2) m' ∧ News h₀ L h' ((I + 1, lst ys) :: news)) ?_ (X.cps.size + 1)
      ⟨h₁, _, 0, [], _, rfl, Nat.zero_le _, rfl, rfl, by rw [List.take_zero]; exact .nil, ?_, F₁, hns₁, ?_⟩
    · rintro k s' ⟨h', tk, i, ys, m', rfl, hi, rfl, hyl, hint, hst', F', hn', N'⟩
      by_cases hlt' : i < X.cps.size
      · refine W.item i _ _ _ hlt' hst' fun v h₂ tk₂ hPv hst₂ hk₂ => ?_
        obtain ⟨c, u, hc, rfl⟩ := hPv
        have go := turn i c u hc
        have up2 : ∀ b o, b ≠ I → h'.get? b = some o → h₂.get? b = some o := fun b o hb e => hk₂ b o (by simpa using hb) e
        have hn₂ : h₂.Ns (I + 2) m' := hn'.at' fun o e => up2 _ o cI e
        refine wpAny_assign_Name (wpAny_storeName_local (lookup_relabel_local hx) hn₂ (fun h₆ hn₆ hs₆ => ?_) (by simp [compEnvC, relabel, hkind]))
        have up6 : ∀ b o, b ≠ I → b ≠ I + 2 → h'.get? b = some o → h₆.get? b = some o := fun b o b1 b2 e => hs₆.extBut b o b2 (up2 b o b1 e)
        have F₆ : Fr h₀ L h₆ m := ⟨F'.ns.at' fun o e => up6 _ o (Nat.ne_of_lt hLI) (Nat.ne_of_lt cL) e, fun b o e => up6 b o (fun eb => by rw [eb, new0 I (Nat.le_refl _)] at e; cases e) (fun eb => by rw [eb, new0 (I + 2) (Nat.le_add_right _ _)] at e; cases e) (F'.keep b o e), F'.above⟩
        have N₆ : News h₀ L h₆ ((I + 1, lst ys) :: news) := fun p hp => by
          refine ⟨up6 _ _ ?_ ?_ (N' p hp).1, (N' p hp).2⟩
          · rcases List.mem_cons.mp hp with rfl | hp
            · exact Nat.ne_of_gt (Nat.lt_succ_self I)
            · exact Nat.ne_of_lt (nlt p hp)
          · rcases List.mem_cons.mp hp with rfl | hp
            · exact Nat.ne_of_lt (Nat.lt_succ_self (I + 1))
            · exact Nat.ne_of_lt (Nat.lt_succ_of_lt (Nat.lt_succ_of_lt (nlt p hp)))
        have keepI : ∀ b o, b ≠ I + 2 → h₂.get? b = some o → h₆.get? b = some o := fun b o b2 e => hs₆.extBut b o b2 e
        obtain ⟨oI, heI, hcI, hdI⟩ := hst₂
        have heI₆ : h₆.get? I = some oI := keepI _ _ (Ne.symm cI) heI
        obtain ⟨oC, heC, hoC⟩ := ns_obj hn₆
        have N₆' : News h₀ L h₆ ((I, oI) :: (I + 2, oC) :: (I + 1, lst ys) :: news) := fun p hp => by
          rcases List.mem_cons.mp hp with rfl | hp
          · exact ⟨heI₆, Nat.ne_of_gt hLI, new0 _ (Nat.le_refl _)⟩
          rcases List.mem_cons.mp hp with rfl | hp
          · exact ⟨heC, Nat.ne_of_gt cL, new0 _ (Nat.le_add_right _ _)⟩
          exact N₆ p hp
        refine wpAny_mono (go I oI (I + 2) oC (I + 1) ys _ h₆ _ _ hoC (by simp) F₆ N₆') (fun y s₇ h₇ => ?_) fun _ _ e => e
        obtain ⟨⟨ty, rfl⟩, g, tg, rfl, Fg, Ng⟩ := h₇
        have NgD : News h₀ L g ((I + 1, lst ys) :: news) := fun p hp => Ng p (List.mem_cons_of_mem _ (List.mem_cons_of_mem _ hp))
        have gI := (Ng _ List.mem_cons_self).1
        have gC := (Ng _ (List.mem_cons_of_mem _ List.mem_cons_self)).1
        refine append_at (hsz := by show ys.toArray.size ≤ sizeLine; rw [List.size_toArray, hyl, sizeLine_eq]; omega) (NgD _ List.mem_cons_self).1 fun g' hsg hDg => ?_
        have NgN : News h₀ L g' news := fun p hp => ⟨hsg.extBut _ _ (Nat.ne_of_lt (Nat.lt_succ_of_lt (nlt p hp))) (NgD p (List.mem_cons_of_mem _ hp)).1, (NgD p (List.mem_cons_of_mem _ hp)).2⟩
        refine ⟨X.cps.size + 1 - (i + 1), by omega, g', _, i + 1, ys ++ [.int (c : Int) ty], _, rfl, hlt', rfl, by rw [List.length_append, hyl]; rfl, ?_, ⟨oI, hsg.extBut _ _ (Nat.ne_of_lt (Nat.lt_succ_self I)) gI, hcI, hdI⟩,
          Fg.change hsg dL (new0 _ (Nat.le_succ _)), (hoC.ns gC).sameBut hsg (Nat.ne_of_gt (Nat.lt_succ_self (I + 1))), fun p hp => ?_⟩
        · have e9 : X.cps.toList[i]? = some c := by rw [Array.getElem?_toList]; exact hc
          rw [List.take_add_one, e9, List.map_append]
          exact ints_snoc hint
        · rcases List.mem_cons.mp hp with rfl | hp
          · exact ⟨hDg.trans (congrArg some (lst_snoc ys _)), dL, new0 _ (Nat.le_succ _)⟩
          · exact NgN p hp
      · obtain rfl : i = X.cps.size := Nat.le_antisymm hi (Nat.not_lt.mp hlt')
        rw [List.take_of_length_le (by rw [Array.length_toList]; exact Nat.le_refl _)] at hint
        refine W.done _ _ _ hst' fun h₂ tk₂ hk₂ => ?_
        have F₂ : Fr h₀ L h₂ m := fr_but F' hk₂ (Nat.ne_of_lt hLI) (new0 _ (Nat.le_refl _))
        have N₂ : News h₀ L h₂ ((I + 1, lst ys) :: news) := news_but N' hk₂ fun p hp => by
          rcases List.mem_cons.mp hp with rfl | hp
          · exact Nat.ne_of_gt (Nat.lt_succ_self I)
          · exact Nat.ne_of_lt (nlt p hp)
        refine ⟨m', hn'.at' fun o e => hk₂ _ o (fun hm9 => cI (List.mem_singleton.mp hm9)) e, fun h'' hs'' => ?_⟩
        refine fin (I + 1) ys h'' tk₂ hint (F₂.change hs'' (Nat.ne_of_gt cL) (new0 _ (Nat.le_add_right _ _))) (fun p hp => ?_) fun p hp => Nat.lt_succ_of_lt (nlt p hp)
        refine ⟨hs''.extBut _ _ ?_ (N₂ p hp).1, (N₂ p hp).2⟩
        rcases List.mem_cons.mp hp with rfl | hp
        · exact Nat.ne_of_lt (Nat.lt_succ_self (I + 1))
        · exact Nat.ne_of_lt (Nat.lt_succ_of_lt (Nat.lt_succ_of_lt (nlt p hp)))
    · obtain ⟨o, e1, e2, e3⟩ := itI
      exact ⟨o, old _ _ e1, e2, e3⟩
    · intro p hp
      rcases List.mem_cons.mp hp with rfl | hp
      · exact ⟨accD, dL, new0 _ (Nat.le_succ _)⟩
      · exact ⟨old _ _ (up1 _ _ (N p hp).1), (N p hp).2⟩
  refine codeAny_compStart_list (loop _ rfl) (W.self 0 _ _ _ ?_ (loop _ rfl))
  obtain ⟨o, e1, e2, e3⟩ := itI
  exact ⟨o, old _ _ e1, e2, e3⟩
end
end PartCompS
end Mine

namespace Mine
section PartBound
open PySem PySem.W PySem.Calls PyProof.Rows PySem.Builtin PyProof.Rows.LCg
set_option maxRecDepth 100000
set_option maxHeartbeats 1000000
local macro_rules | `(tactic| walk_at $s:str) => `(tactic| k_extra $s)
local macro_rules | `(tactic| k_all) => `(tactic| assumption)
-- a row never asked for: one more row than the last part, so that no line kept of it is used
local macro_rules | `(tactic| walk_at "MINE pad") => `(tactic| fail "pad")
-- entering a def of the text that keeps a cell
local macro_rules | `(tactic| walk_at "MINE enterC") => `(tactic| (refine' code_defC ?k1 ?k2 ?k3 ?k4 ?k5 ?kA ?kF ?kK ?k6 ?k7 ?k8 ?k9 ?kB ?kD ?_ ?c2 ?c3 ?c4; (case kA => exact rfl); (case kF => exact rfl); (case kK => assumption); (case k1 => k_asm); (case k2 => k_asm); (case k3 => k_asm); (case k4 => k_asm); (case k5 => k_asm); (case k6 => k_is); (case k7 => k_is); (case k8 => ktr_room); (case k9 => first | exact BindsTo.of_eq rfl | exact binds_K (by k_in) rfl (by k_is) rfl rfl rfl); (case kB => exact rfl); (case kD => decide +kernel); (case c2 => exact rfl); (case c3 => exact rfl); (case c4 => exact rfl); k_whole; intro g' L' h' tk' cells' FG' F' N' Y' B' X' T' l1; k_cells Y'; (try simp only [List.cons_append, List.nil_append] at N'); (try dsimp only); (try k_fold)))

def BodiesAre (vs : Array Value) (bs : List (Array UInt8)) : Prop := vs.size = bs.length ∧ ∀ (i : Nat) (v : Value), vs[i]? = some v → ∃ b t, bs[i]? = some b ∧ v = .bytes b t
def markOf (k : Nat) : Array UInt8 := #[45, 45, 61, 95, 112, 97, 114, 116, UInt8.ofNat (48 + k)]
def hit (bs : List (Array UInt8)) (k : Nat) : Bool := bs.any fun b => hind b (markOf k)

def BoJ (Bo : Addr) (L₁ : Addr) (news : List (Addr × Obj)) (n₀ : Nat) (n : Nat) (m' : Str → Option Value) (nx : List (Addr × Obj)) : Prop :=
  ∃ (k : Int) (t : Tok) (oc : Obj) (v : Option Value), nx = (L₁ + 1, oc) :: news ∧ oc.data = .cell v ∧ m' (Str.ofString "number") = some (.int k t) ∧ m' (Str.ofString "bodies") = some (.ref Bo) ∧ 0 ≤ k ∧ k ≤ (n₀ : Int) ∧ n = n₀ + 1 - k.toNat
theorem all2 {α : Type} {P : α → Prop} {a b : α} (ha : P a) (hb : P b) : ∀ p ∈ [a, b], P p := by
  intro p hp
  rcases List.mem_cons.mp hp with rfl | hp
  · exact ha
  rw [List.mem_singleton] at hp
  subst hp
  exact hb

/-- the boundary with number k -/
def lead (k : Int) : Str := Str.ofString "=_part" ++ Str.ofString (toString k)
theorem five {k : Int} (h : 0 ≤ k ∧ k ≤ 4) : k = 0 ∨ k = 1 ∨ k = 2 ∨ k = 3 ∨ k = 4 := by omega
theorem lead_low {k : Int} (h : 0 ≤ k ∧ k ≤ 4) : (Str.ofString "=_part" ++ Str.ofString (toString k)).cps.all (· < 128) = true := by
  rcases five h with rfl | rfl | rfl | rfl | rfl <;> decide +kernel
theorem lead_size {k : Int} (h : 0 ≤ k ∧ k ≤ 4) : (Str.ofString "=_part" ++ Str.ofString (toString k)).cps.size = 7 := by
  rcases five h with rfl | rfl | rfl | rfl | rfl <;> decide +kernel
theorem lead_mark {k : Int} (h : 0 ≤ k ∧ k ≤ 4) : #[45, 45] ++ byteArr ((Str.ofString "=_part" ++ Str.ofString (toString k)).cps.toList.map fun (c : Nat) => (c : Int)) = markOf k.toNat := by
  rcases five h with rfl | rfl | rfl | rfl | rfl <;> decide +kernel
theorem low_in {X : Str} (h : X.cps.all (· < 128) = true) : KBa.In (X.cps.toList.map fun (c : Nat) => (c : Int)) := by
  intro n hn
  obtain ⟨c, hc, rfl⟩ := List.mem_map.mp hn
  rw [← Array.all_toList, List.all_eq_true] at h
  have := h c hc
  simp only [decide_eq_true_eq] at this
  omega
section
variable {prog : Program} {w : World} {A : Around} {E : Value → Shared → Prop} {s : Shared} {b c : Array UInt8} {t u : Tok} {Q : Value → Shared → Prop}
theorem add_to {M : Array UInt8} (e : b ++ c = M) (hM : M.size ≤ 1000) (h : ∀ t' k, Q (.bytes M t') { s with toks := k }) : wpAny (model prog w) A (binaryOp .Add (.bytes b t) (.bytes c u)) Q E s := by
  subst e
  exact KBy.add_bytes (by rw [Array.size_append] at hM; omega) h
end
theorem mark_size (k : Nat) : (markOf k).size = 9 := rfl

theorem bound_call {w : World} {mean : ExcName → Option Value} {mg mb : Str → Option Value} (Bo : Addr) (vs : Array Value) (nB : Nat) (bs : List (Array UInt8)) (n₀ : Nat)
    (hbs : BodiesAre vs bs) (hlen : bs.length ≤ 100) (hsz : ∀ b ∈ bs, b.size ≤ 1000) (hn : n₀ ≤ 4) (h0 : hit bs n₀ = false) (h1 : ∀ k < n₀, hit bs k = true)
    (dp un : Nat) (gd : Option (List Code)) (cn : Str) (cs : Scope) (a : Addr) (ccd : Value) (cl : List (Str × Addr)) (outer : List Env) (A₀ : Around) (base h₀ : Heap) (L : Addr) (m : Str → Option Value) (news : List (Addr × Obj)) (s : Shared) (Q E : Value → Shared → Prop)
    (B : Below A₀ base outer h₀) (F : Fr h₀ L s.heap m) (X : (hd.heap_39 w.params).In h₀) (N : News h₀ L s.heap news) (hB : (Bo, listOf vs nB) ∈ news)
    (T : Top hd.view_39 (looseW hd.view_39 [Str.ofString "line_spans"]) mean mg mb h₀) (hk : cs.kind = .function) (hd : dp + 3 < recursionLimit) (hu : un + 200 < cLine)
    (hret : ∀ t h' tk', Fr h₀ L h' m → News h₀ L h' news → Q (.str (Str.ofString "=_part" ++ Str.ofString (toString (n₀ : Int))) t) { s with heap := h', toks := tk' }) :
    wpAny (model Challenge.rw_no0345_01.row.prog w) (ktrTop dp un gd cn cs L a ccd cl outer) (call (.ref 32) [.ref Bo]) Q E s := by
  k_with_none; w_top off
  revert X; k_fill; intro X
  refine wpAny_call ?_
  k_dflt walk_at "MINE enterC"
  k_with_none
  rename Fr _ _ _ _ => lF0
  rename_i g₁ L₁ hh₁ tk₁ FG₁ B₁ X₁ T₁ l₁ o₁ d₁ N₁
  have lF : Fr g₁ L₁ hh₁ (fun y => if y = Str.ofString "bodies" then some (.ref Bo) else none) := by with_unfolding_all exact lF0
  have e₁ : o₁.data = .cell none := by with_unfolding_all exact d₁
  clear lF0 d₁
  iterate 5 walk1
  rename Fr _ _ _ _ => lF'
  rename News _ _ _ _ => lN'
  refine' While_inv2 (BoJ Bo L₁ news n₀) lF' lN' ⟨0, _, o₁, _, rfl, e₁, rfl, rfl, by omega, by omega, rfl⟩ ?_
  clear lF' lN'
  rintro n m₁ nx h₁ tk₁ kF kN ⟨k, t, oc, v, rfl, hoc, hm1, hm2, hk0, hk1, hn⟩
  have kF := fr_sets [(Str.ofString "number", .int k t), (Str.ofString "bodies", .ref Bo)] kF (all2 hm1 hm2)
  simp only [kstB] at kF
  have hkc : 0 ≤ k ∧ k ≤ 4 := by omega
  have hoffC : ∀ p ∈ news, p.1 ≠ L₁ + 1 := fun p hp => Nat.ne_of_lt (Nat.lt_succ_of_lt (l₁ p hp))
  try k_fold
  k_with "eval ListComp Call cons" => k_dflt (refine compS (x := Str.ofString "sign") (by k_asm) (by with_unfolding_all rfl) (by decide) (by rfl) (by decide) (by rfl) (by rfl) ?_)
  k_with "SrcS" => k_dflt (
      (refine ⟨_, _, _, rfl, lead_low hkc, by k_asm, by k_asm, (by rw [lead_size hkc]; decide), ?ss1, ?ss2⟩);
      (case ss1 => (intro i c u hc I oI C oC D ys m₂ hh tk2 E' hC hx F' N'; dsimp only; k_steps; all_goals assumption));
      (intro D ys hh tk2 hints F' N' hlt; dsimp only);
      (have hD9 : @LT.lt Nat _ (L₁ + 1) D := hlt _ List.mem_cons_self))
  k_with "call type:bytes" => k_dflt ((refine KBa.make_K (by k_asm) (by k_asm) rfl (News.isList (by k_asm) (by k_mem)) hints (low_in (lead_low hkc)) (by rw [List.length_map, Array.length_toList, lead_size hkc]; decide) ?_); (intro _ _ _ F' N' hIn))
  k_with "binaryOp Add bytes bytes" => k_dflt ((refine add_to (lead_mark hkc) (by rw [mark_size]; decide) ?_); (intro _ _))
  k_with "eval ListComp Constant cons" => k_dflt (refine comp1 (x := Str.ofString "body") (qOf bs fun b => hind b (markOf k.toNat)) (by k_asm) (by with_unfolding_all rfl) (by decide) (by rfl) (by decide) (by rfl) (by rfl) ?_)
  k_with "call ref" => k_dflt (
      (refine begins_call _ _ _ _ (by rw [KBw.ints_length]; assumption) (by rw [KBw.ints_length, mark_size]; decide) (by rw [mark_size]; decide) _ _ _ _ _ _ _ _ _ _ _ _ _ _ _ _ _ _ (by k_asm) (by k_asm) (by k_asm) (by k_asm) (by k_asm) rfl hd (by ktr_units) ?_);
      (intro h9 tk9 F9 N9))
  k_with "Src1" => k_dflt (
      (refine ⟨Bo, vs, nB, _, rfl, by k_asm, by k_asm, List.mem_cons_of_mem _ (List.mem_cons_of_mem _ hB), (by rw [hbs.1]; exact Nat.le_trans hlen (by decide)), ?ss3, ?ss4⟩);
      (case ss3 => (intro i v hv I oI C oC D3 ys3 m₂ hh3 tk3 E3 hC hx F3 N3; obtain ⟨b, tb, hbi, rfl⟩ := hbs.2 i v hv; have hszb := hsz b (List.mem_of_getElem? hbi); dsimp only; k_steps; all_goals (first | assumption | (unfold qOf; rw [hbi]))));
      (intro D4 ys4 hh4 tk4 hyl hones F4 N4 hlt4; dsimp only))
  k_with "compareOp Eq ref ref" => k_dflt (refine eq_ones ⟨_, (News.here (by k_asm) (by k_mem)), rfl, _, rfl⟩ hones ⟨_, (News.here (by k_asm) (by k_mem)), rfl, _, rfl⟩ hyl hbs.1 (by ktr_units) ?_)
  k_steps
  · have hkn : k + 1 ≤ (n₀ : Int) := by
      rcases Int.lt_or_eq_of_le hk1 with g | g
      · omega
      · exfalso
        have e9 : k.toNat = n₀ := by omega
        rename (bs.any _) = true => hany
        rw [e9] at hany
        exact Bool.false_ne_true (h0.symm.trans hany)
    rename Fr _ _ _ _ => kF9
    rename News _ _ _ _ => kN9
    rename Obj.data _ = Data.cell (some _) => kD9
    exact ⟨_, _, _, _, n₀ + 1 - (k + 1).toNat, rfl, kF9, fun p hp => kN9 p (List.mem_cons_of_mem _ (List.mem_cons_of_mem _ (List.mem_cons_of_mem _ hp))), by omega, k + 1, _, _, _, rfl, kD9, by with_unfolding_all rfl, by with_unfolding_all rfl, by omega, hkn, rfl⟩
  · have hkn : k = (n₀ : Int) := by
      rcases Int.lt_or_eq_of_le hk1 with g | g
      · exfalso
        have h9 := h1 k.toNat (by omega)
        rename (bs.any _) = false => hany
        exact Bool.false_ne_true (hany.symm.trans h9)
      · exact g
    subst hkn
    dsimp only [WhileStep2]
    k_steps
    rename News _ _ _ _ => kN9
    exact hret _ _ _ (by assumption) fun p hp => kN9 p (List.mem_cons_of_mem _ (List.mem_cons_of_mem _ (List.mem_cons_of_mem _ (List.mem_cons_of_mem _ hp))))
end PartBound
end Mine

namespace Mine
section PartRange
open PySem PySem.W PySem.Calls PyProof.Rows PySem.Builtin PySem.Spec

/-- a goal set aside -/
def Hold (P : Prop) : Prop := P
theorem Hold.intro {P : Prop} (h : Hold P) : P := h
theorem Hold.of {P : Prop} (h : P) : Hold P := h

theorem six {r : Int} (h0 : 0 ≤ r) (h1 : r < 6) : r = 0 ∨ r = 1 ∨ r = 2 ∨ r = 3 ∨ r = 4 ∨ r = 5 := by omega
theorem r_small {r : Int} (h0 : 0 ≤ r) (h1 : r < 6) : Builtin.Range.small 0 r 1 = true := by
  rcases six h0 h1 with rfl | rfl | rfl | rfl | rfl | rfl <;> decide
theorem r_size {r : Int} (h0 : 0 ≤ r) (h1 : r < 6) : Builtin.Range.rangeSize 0 r 1 = ((r.toNat : Nat) : Int) := by
  rcases six h0 h1 with rfl | rfl | rfl | rfl | rfl | rfl <;> decide

section
variable {prog : Program} {w : World} {A : Around} {E : Value → Shared → Prop} {s : Shared} {env : Env} {h₀ : Heap} {x : Str} {body : List Stmt} {Q : Flow → Shared → Prop}
theorem range_J {r : Addr} {b₀ : Int} {t₀ u₀ v₀ : Tok} {m₀ : Str → Option Value} {news : List (Addr × Obj)} (J : Nat → (Str → Option Value) → List (Addr × Obj) → Prop)
    (hh : A.handled = none) (hr : IsRange s.heap r 0 b₀ 1 t₀ u₀ v₀) (hb0 : 0 ≤ b₀) (hb1 : b₀ < 6) (F : Fr h₀ env.locals s.heap m₀) (N : News h₀ env.locals s.heap news) (hj : J 0 m₀ news)
    (turn : ∀ (i : Nat) t m₁ nx h tk own, i < b₀.toNat → nx.map (·.1) = news.map (·.1) → OwnOff own (news.map (·.1)) → J i m₁ nx → Fr h₀ env.locals h (fun y => if y = x then some (.int (i : Int) t) else m₁ y) → News h₀ env.locals h (nx ++ own) →
      wpAny (model prog w) A (execs body env) (InvPostN h₀ env.locals (J (i + 1)) own (news.map (·.1)) { s with heap := h, toks := tk } Q) E { s with heap := h, toks := tk })
    (done : ∀ m₁ nx h tk, J b₀.toNat m₁ nx → Fr h₀ env.locals h m₁ → News h₀ env.locals h nx → Q .next { s with heap := h, toks := tk }) :
    wpAny (model prog w) A (pyIter (.ref r)) (fun it s₂ => LoopAtV prog w A h₀ env x body Q E it s₂) E s := by
  refine wpAny_pyIter_range hr (r_small hb0 hb1) ?_
  have W := Walks.range (prog := prog) (w := w) hh s.heap.objs.size 0 1 b₀.toNat
  have nw : ∀ p ∈ news, p.1 ∉ [s.heap.objs.size] := fun p hp hm => absurd (Heap.lt_size (N p hp).1) ((List.mem_singleton.mp hm) ▸ Nat.lt_irrefl _)
  refine loop_invN J W ?_ ?_ nw nw (by show IsRangeIter _ _ _ _ _; rw [r_size hb0 hb1]; simpa using Heap.get?_push_size _ rfl) (F.push _) (fun p hp => ⟨Heap.get?_push_of_some _ (N p hp).1, (N p hp).2⟩) hj ?_ done
  · intro hm
    exact absurd F.ns.lt ((List.mem_singleton.mp hm) ▸ Nat.lt_irrefl _)
  · intro b hb
    rw [List.mem_singleton.mp hb]
    exact next_is_new F
  · rintro i v m₁ nx h tk own hi ⟨t, rfl⟩ hadr hoff hJ F₁ N₁
    have e1 : (0 : Int) + (i : Int) * 1 = (i : Int) := by omega
    rw [e1] at F₁
    exact turn i t m₁ nx h tk own hi hadr hoff hJ F₁ N₁
end
end PartRange
end Mine

namespace Mine
section PartDraw2
open PySem PySem.W PySem.Calls PyProof.Rows PySem.Builtin PyProof.Rows.LCg
set_option maxRecDepth 100000
set_option maxHeartbeats 1000000

theorem draw_call2 {w : World} {mean : ExcName → Option Value} {mg mb : Str → Option Value} (T₀ C : Addr) (at₀ l : Int) (ta tl : Tok) (nT nC : Nat) (vs : List Value) (ns : List Int) (news : List (Addr × Obj)) (g : Obj → List (Addr × Obj))
    (hi : IntsAre vs ns) (h0 : 0 < ns.length) (h40 : ns.length ≤ 40) (ha : 0 ≤ at₀) (hb : at₀ ≤ 1000) (hl0 : 0 < l) (hl1 : l ≤ 100)
    (dp un : Nat) (gd : Option (List Code)) (cn : Str) (cs : Scope) (a : Addr) (ccd : Value) (cl : List (Str × Addr)) (outer : List Env) (A₀ : Around) (base h₀ : Heap) (L : Addr) (m : Str → Option Value) (s : Shared) (Q E : Value → Shared → Prop)
    (B : Below A₀ base outer h₀) (F : Fr h₀ L s.heap m) (X : (hd.heap_39 w.params).In h₀)
    (N : News h₀ L s.heap news) (U : UpdF T₀ (listOf #[.ref C, .int at₀ ta] nT) news g) (hC : (C, listOf vs.toArray nC) ∈ news) (hCT : @Ne Nat C T₀)
    (T : Top hd.view_39 (looseW hd.view_39 [Str.ofString "line_spans"]) mean mg mb h₀) (hk : cs.kind = .function) (hd : dp + 1 < recursionLimit)
    (hret : ∀ r tr ta' nT' h' tk', 0 ≤ r → r < l → Fr h₀ L h' m → News h₀ L h' (g (listOf #[.ref C, .int (at₀ + 1) ta'] nT')) → Q (.int r tr) { s with heap := h', toks := tk' }) :
    wpAny (model Challenge.rw_no0345_01.row.prog w) (ktrTop dp un gd cn cs L a ccd cl outer) (call (.ref 40) [.ref T₀, .int l tl]) Q E s := by
  obtain ⟨pre, post, rfl, hg, h1, h2⟩ := U.split
  refine draw_call T₀ C at₀ l ta tl nT nC vs ns (pre ++ post) hi h0 h40 ha hb hl0 hl1 dp un gd cn cs a ccd cl outer A₀ base h₀ L m s Q E B F X ?_ ?_ hCT T hk hd ?_
  · intro p hp
    rcases List.mem_cons.mp hp with rfl | hp
    · exact N _ (List.mem_append_right _ List.mem_cons_self)
    rcases List.mem_cons.mp hp with rfl | hp
    · exact N _ hC
    · rcases List.mem_append.mp hp with hp | hp
      · exact N _ (List.mem_append_left _ hp)
      · exact N _ (List.mem_append_right _ (List.mem_cons_of_mem _ hp))
  · intro p hp
    rcases List.mem_append.mp hp with hp | hp
    · exact h1 p hp
    · exact h2 p hp
  · intro r tr ta' nT' h' tk' hr0 hr1 F' N'
    refine hret r tr ta' nT' h' tk' hr0 hr1 F' ?_
    rw [hg]
    intro p hp
    rcases List.mem_append.mp hp with hp | hp
    · exact N' _ (List.mem_cons_of_mem _ (List.mem_cons_of_mem _ (List.mem_append_left _ hp)))
    rcases List.mem_cons.mp hp with rfl | hp
    · exact N' _ List.mem_cons_self
    · exact N' _ (List.mem_cons_of_mem _ (List.mem_cons_of_mem _ (List.mem_append_right _ hp)))

/-- octets without the sign 4 -/
def NoF (b : Array UInt8) : Prop := ∀ c ∈ b.toList, c ≠ 52
theorem NoF.nil : NoF #[] := fun _ h => nomatch h
theorem NoF.app {b c : Array UInt8} (h : NoF b) (k : NoF c) : NoF (b ++ c) := by
  intro x hx
  rw [Array.toList_append] at hx
  rcases List.mem_append.mp hx with hx | hx
  · exact h x hx
  · exact k x hx
def okB : Value → Bool
  | .bytes b _ => decide (b.size ≤ 11) && b.toList.all (· != 52)
  | _ => false
theorem okB.out {v : Value} (h : okB v = true) : ∃ b t, v = .bytes b t ∧ b.size ≤ 11 ∧ NoF b := by
  cases v with
  | bytes b t =>
    unfold okB at h
    rw [Bool.and_eq_true, decide_eq_true_eq, List.all_eq_true] at h
    exact ⟨b, t, rfl, h.1, fun c hc => by simpa using h.2 c hc⟩
  | _ => cases h
theorem pick {l : List Value} {k : Int} (hall : l.all okB = true) (h0 : 0 ≤ k) (h1 : k < (l.length : Int)) : ∃ b t, l[k.toNat]? = some (.bytes b t) ∧ b.size ≤ 11 ∧ NoF b := by
  have hlt : k.toNat < l.length := by omega
  rw [List.all_eq_true] at hall
  obtain ⟨b, t, e, h2, h3⟩ := (hall l[k.toNat] (List.getElem_mem hlt) |> okB.out)
  exact ⟨b, t, by rw [List.getElem?_eq_getElem hlt, e], h2, h3⟩
theorem seq_place {k : Int} {n : Nat} (h0 : 0 ≤ k) (h1 : k < (n : Int)) : seqIndex? k n = some k.toNat := by
  have n0 : ¬ k < 0 := by omega
  simp [seqIndex?, n0, h0, h1]
section
variable {prog : Program} {w : World} {A : Around} {E : Value → Shared → Prop} {s : Shared} {h₀ h : Heap} {L a : Addr} {m : Str → Option Value} {K : Frag} {n : Nat} {Q : Value → Shared → Prop} {l : List Value} {value slice : PySem.Expr} {k : Int} {u : Tok}
theorem pick_K {dd : Option Addr} {sl : Array (Option Value)} (F : Fr h₀ L s.heap m) (X₀ : K.In h₀) (hl : K.lookup a = some ⟨.type "tuple", dd, .seq l.toArray n, sl⟩) (hall : l.all okB = true) (hlen : l.length ≤ 100) (h0 : 0 ≤ k) (h1 : k < (l.length : Int))
    (h : ∀ c t, c.size ≤ 11 → NoF c → Q (.bytes c t) s)
    (hs : subscripted slice false (.ref a) (.int k u) = operate [.ref a, .int k u] (getItem (.ref a) (.int k u)) := by with_unfolding_all rfl) :
    wpAny (model prog w) A (subscriptTail value slice (.ref a) (.int k u)) Q E s := by
  obtain ⟨b, t, hx, h2, h3⟩ := pick hall h0 h1
  exact topTup_K F X₀ hl (by omega) (by omega) (seq_place h0 h1) hx (h b t h2 h3) hs
theorem pick_N {news : List (Addr × Obj)} (N : News h₀ L s.heap news) (hm : (a, ({ cls := .type "tuple", data := .seq l.toArray n } : Obj)) ∈ news) (hall : l.all okB = true) (hlen : l.length ≤ 100) (h0 : 0 ≤ k) (h1 : k < (l.length : Int))
    (h : ∀ c t, c.size ≤ 11 → NoF c → Q (.bytes c t) s)
    (hs : subscripted slice false (.ref a) (.int k u) = operate [.ref a, .int k u] (getItem (.ref a) (.int k u)) := by with_unfolding_all rfl) :
    wpAny (model prog w) A (subscriptTail value slice (.ref a) (.int k u)) Q E s := by
  obtain ⟨b, t, hx, h2, h3⟩ := pick hall h0 h1
  exact item_tupleT ⟨_, News.here N hm, rfl, n, rfl⟩ (by omega) (by omega) (by simpa using seq_place h0 h1) (by simpa using hx) (h b t h2 h3) hs
end
/-- a mark with number 4 begins no line of such octets -/
theorem no_four {b : Array UInt8} (h : NoF b) : hind b (markOf 4) = false := by
  cases e : hind b (markOf 4) with
  | false => rfl
  | true =>
    exfalso
    unfold hind at e
    rw [hindFrom_true] at e
    obtain ⟨i, _, _, h3⟩ := e
    unfold hindAt at h3
    rw [Bool.and_eq_true] at h3
    have h4 : cut b i (markOf 4).size = (markOf 4).toList := by simpa using h3.2
    have h5 : (52 : UInt8) ∈ (markOf 4).toList := by decide
    rw [← h4] at h5
    unfold cut at h5
    exact h 52 (List.mem_of_mem_drop (List.mem_of_mem_take h5)) rfl
/-- the least number that is free -/
theorem least {bs : List (Array UInt8)} (h : ∀ b ∈ bs, NoF b) : ∃ n, n ≤ 4 ∧ hit bs n = false ∧ ∀ k < n, hit bs k = true := by
  have h4 : hit bs 4 = false := by
    unfold hit
    rw [List.any_eq_false]
    intro b hb
    rw [no_four (h b hb)]
    exact Bool.false_ne_true
  have cases1 : ∀ k, hit bs k = true ∨ hit bs k = false := fun k => by cases hit bs k <;> simp
  rcases cases1 0 with a | a
  · rcases cases1 1 with b | b
    · rcases cases1 2 with c | c
      · rcases cases1 3 with d | d
        · refine ⟨4, by omega, h4, fun k hk => ?_⟩
          have : k = 0 ∨ k = 1 ∨ k = 2 ∨ k = 3 := by omega
          rcases this with rfl | rfl | rfl | rfl <;> assumption
        · refine ⟨3, by omega, d, fun k hk => ?_⟩
          have : k = 0 ∨ k = 1 ∨ k = 2 := by omega
          rcases this with rfl | rfl | rfl <;> assumption
      · refine ⟨2, by omega, c, fun k hk => ?_⟩
        have : k = 0 ∨ k = 1 := by omega
        rcases this with rfl | rfl <;> assumption
    · refine ⟨1, by omega, b, fun k hk => ?_⟩
      have : k = 0 := by omega
      subst this
      assumption
  · exact ⟨0, by omega, a, fun k hk => absurd hk (Nat.not_lt_zero k)⟩
theorem BodiesAre.push {vs : Array Value} {bs : List (Array UInt8)} (h : BodiesAre vs bs) (b : Array UInt8) (t : Tok) : BodiesAre (vs.push (.bytes b t)) (bs ++ [b]) := by
  refine ⟨by rw [Array.size_push, List.length_append, h.1]; rfl, fun i v hv => ?_⟩
  rw [Array.getElem?_push] at hv
  by_cases e : i = vs.size
  · rw [if_pos e] at hv
    refine ⟨b, t, ?_, (Option.some.inj hv).symm⟩
    rw [List.getElem?_append_right (by rw [← h.1]; omega), e, h.1, Nat.sub_self]
    rfl
  · rw [if_neg e] at hv
    obtain ⟨c, u, hc, hu⟩ := h.2 i v hv
    have hlt : i < bs.length := by
      rcases Nat.lt_or_ge i bs.length with g | g
      · exact g
      · rw [List.getElem?_eq_none g] at hc
        cases hc
    exact ⟨c, u, by rw [List.getElem?_append_left hlt]; exact hc, hu⟩
theorem in48 {k : Int} (h : 0 ≤ k ∧ k ≤ 4) : KBa.In [48 + k] := by
  intro n hn
  rw [List.mem_singleton] at hn
  omega
theorem hin_mark {k : Int} (h : 0 ≤ k ∧ k ≤ 4) : #[45, 45, 61, 95, 112, 97, 114, 116] ++ byteArr [48 + k] = markOf k.toNat := by
  rcases five h with rfl | rfl | rfl | rfl | rfl <;> decide +kernel
end PartDraw2
end Mine

namespace Mine
section PartLaw
open PySem PySem.W PySem.Calls PyProof.Rows PySem.Builtin PyProof.Rows.LCg
set_option maxRecDepth 100000
set_option maxHeartbeats 8000000
local macro_rules | `(tactic| walk_at $s:str) => `(tactic| k_extra $s)
local macro_rules | `(tactic| k_all) => `(tactic| assumption)
local macro_rules | `(tactic| size_fits) => `(tactic| (simp only [sizeLine_eq]; omega))

def JO (Bo Ta Ce Cn : Addr) (oc : Obj) (cv : List Value) (nC : Nat) (i : Nat) (m : Str → Option Value) (nx : List (Addr × Obj)) : Prop :=
  ∃ (at₀ : Int) (ta : Tok) (nT nB : Nat) (vs : Array Value) (bs : List (Array UInt8)), nx = [(Bo, listOf vs nB), (Ta, listOf #[.ref Ce, .int at₀ ta] nT), (Ce, listOf cv.toArray nC), (Cn, oc)] ∧
    m (Str.ofString "bodies") = some (.ref Bo) ∧ m (Str.ofString "tape") = some (.ref Ta) ∧ BodiesAre vs bs ∧ bs.length = i ∧ (∀ b ∈ bs, b.size ≤ 200 ∧ NoF b) ∧ 0 ≤ at₀ ∧ at₀ ≤ 1 + 11 * (i : Int)
def JI (Bo Ta Ce Cn : Addr) (oc : Obj) (cv : List Value) (nC : Nat) (vs : Array Value) (nB : Nat) (own : List (Addr × Obj)) (at₁ : Int) (i : Nat) (m : Str → Option Value) (nx : List (Addr × Obj)) : Prop :=
  ∃ (at₀ : Int) (ta tb : Tok) (nT : Nat) (b : Array UInt8), nx = [(Bo, listOf vs nB), (Ta, listOf #[.ref Ce, .int at₀ ta] nT), (Ce, listOf cv.toArray nC), (Cn, oc)] ++ own ∧
    m (Str.ofString "bodies") = some (.ref Bo) ∧ m (Str.ofString "tape") = some (.ref Ta) ∧ m (Str.ofString "body") = some (.bytes b tb) ∧ b.size ≤ 22 * i ∧ NoF b ∧ at₁ ≤ at₀ ∧ at₀ ≤ at₁ + 2 * (i : Int)

theorem all3 {α : Type} {P : α → Prop} {a b c : α} (ha : P a) (hb : P b) (hc : P c) : ∀ p ∈ [a, b, c], P p := by
  intro p hp
  rcases List.mem_cons.mp hp with rfl | hp
  · exact ha
  · exact all2 hb hc p hp
theorem all1 {α : Type} {P : α → Prop} {a : α} (ha : P a) : ∀ p ∈ [a], P p := by
  intro p hp
  rw [List.mem_singleton] at hp
  subst hp
  exact ha
def JW (Bo Cn : Addr) (vs : Array Value) (nB n₀ : Nat) (n : Nat) (m : Str → Option Value) (nx : List (Addr × Obj)) : Prop :=
  ∃ (k : Int) (t : Tok) (oc : Obj), nx = [(Bo, listOf vs nB), (Cn, oc)] ∧ oc.data = .cell (some (.int k t)) ∧ m (Str.ofString "bodies") = some (.ref Bo) ∧ 0 ≤ k ∧ k ≤ (n₀ : Int) ∧ n = n₀ + 1 - k.toNat
theorem exit_eq {bs : List (Array UInt8)} {k : Int} {n₀ : Nat} (h0 : 0 ≤ k) (h1 : k ≤ (n₀ : Int)) (ht : ∀ k < n₀, hit bs k = true) (hf : (bs.any fun b => hind b (markOf k.toNat)) = false) : k = (n₀ : Int) := by
  rcases Int.lt_or_eq_of_le h1 with g | g
  · exfalso
    exact Bool.false_ne_true (hf.symm.trans (ht k.toNat (by omega)))
  · exact g
theorem eq_same {prog : Program} {w : World} {A : Around} {E : Value → Shared → Prop} {s : Shared} {x : Str} {t u : Tok} {Q : Value → Shared → Prop} (h : Q (.bool true) s) : wpAny (model prog w) A (compareOp .Eq (.str x t) (.str x u)) Q E s := by
  refine eq_str ?_
  rw [beq_self_eq_true]
  exact h
def CellsR (s₁ : Shared) (L l : Addr) (oc : Obj) (v : Value) (s' : Shared) : Prop :=
  ∃ (Ce : Addr) (cv : List Value) (cns : List Int) (nC : Nat) (h' : Heap) (tk' : Nat), v = .ref Ce ∧ s' = { s₁ with heap := h', toks := tk' } ∧
    Fr s₁.heap L h' (fun y => if y = Str.ofString "script" then some (.ref l) else none) ∧ News s₁.heap L h' [(Ce, listOf cv.toArray nC), (L + 1, oc)] ∧
    IntsAre cv cns ∧ 0 < cns.length ∧ cns.length ≤ 40 ∧ @LT.lt Nat _ (L + 1) Ce
theorem cells_one {s₁ : Shared} {L l Ce : Addr} {oc : Obj} {cv : List Value} {cns : List Int} {nC : Nat} {h' : Heap} {tk' : Nat} {led : List (Addr × Obj)} (F : Fr s₁.heap L h' (fun y => if y = Str.ofString "script" then some (.ref l) else none)) (N : News s₁.heap L h' led)
    (m1 : (Ce, listOf cv.toArray nC) ∈ led) (m2 : (L + 1, oc) ∈ led) (hi : IntsAre cv cns) (h0 : 0 < cns.length) (h4 : cns.length ≤ 40) (hlt : @LT.lt Nat _ (L + 1) Ce) : CellsR s₁ L l oc (.ref Ce) { s₁ with heap := h', toks := tk' } := by
  refine ⟨Ce, cv, cns, nC, h', tk', rfl, rfl, F, fun p hp => ?_, hi, h0, h4, hlt⟩
  rcases List.mem_cons.mp hp with rfl | hp
  · exact N _ m1
  · rw [List.mem_singleton] at hp
    subst hp
    exact N _ m2

theorem law_holds : PySem.Challenge.rw_no0345_01.Holds := hd (by
  k_with_none; w_top off
  k_go0
  all_goals try k_fold
  rename_i w s₀ s₁ mg mb G Y fa o pm doc ho hg KX X V GL T B TE TW w1 w2 M w3 w4 hcd ns hs hlay0 hL0 hr0 hl2 w5 w6 l vs w7 hL ra wl r0 hI hr1 hc1 hc2 K0 hD h₁ tk₁ F0 oc right N0 X0
  have lF : Fr s₁.heap s₁.heap.objs.size h₁ (fun y => if y = Str.ofString "script" then some (.ref l) else none) := by with_unfolding_all exact F0
  have hoc : oc.data = .cell none := by with_unfolding_all exact right
  clear F0 right X0 hD hcd M ho
  k_with_none
  k_with "eval BoolOp" => refine Hold.intro ?_
  k_steps
  refine Hold.of ?_
  k_with_none
  refine wpAny_mono (Q := CellsR s₁ s₁.heap.objs.size l oc) ?b1 (fun v s' hR => ?b2) (fun _ _ e => e)
  case b1 =>
    k_steps
    · rename IntsAre _ (List.take 40 ns) => hI9
      exact cells_one (by assumption) (by assumption) (by k_mem) (by k_mem) hI9 (by assumption) (by omega) (by omega)
    · exact cells_one (cv := [_]) (cns := [0]) (by assumption) (by assumption) (by k_mem) (by k_mem) (.cons _ _ .nil) (by decide) (by decide) (by omega)
  obtain ⟨Ce, cv, cns, nC, h₂, tk₂, rfl, rfl, F2, N2, hcv, hc0, hc40, hlt1⟩ := hR
  clear lF N0
  k_with "exec For Name Call cons nil" => refine Hold.intro ?_
  k_steps
  refine Hold.of ?_
  k_with_none
  rename Fr _ _ _ _ => lF
  rename News _ _ _ _ => lN
  rename_i Ta hA1 lA hA2 tkA Bo hA3 lB hA4
  have hCT : @Ne Nat Ce Ta := by omega
  k_with "call ref" => k_dflt (
      (refine' draw_call2 Ta Ce _ _ _ _ _ nC cv cns _ _ hcv hc0 hc40 ?d1 ?d2 (by decide) (by decide) _ _ _ _ _ _ _ _ _ _ _ _ _ _ _ _ _ ?dB ?dF ?dX ?dN ?dU ?dC hCT ?dT rfl ?dd ?_);
      (case dB => k_asm); (case dF => k_asm); (case dX => k_asm); (case dN => k_asm); (case dU => k_updF); (case dC => k_mem); (case dT => k_asm); (case dd => ktr_room); (case d1 => omega); (case d2 => omega);
      (intro r tr ta' nT' h9 tk9 hr0 hr1 kF kN); (try dsimp only at kN))
  k_with "call type:range" => with_unfolding_all ((refine range1_rows (by assumption) (by assumption) ?_); (intro hr tkr tr1 tr2 tr3 hIsR kFr kNr hOld))
  with_unfolding_all refine For_invVF lF rfl rfl ?_
  k_with "pyIter ref" => refine Hold.intro ?_
  k_steps
  refine Hold.of ?_
  refine range_J (JO Bo Ta Ce (s₁.heap.objs.size + 1) oc cv nC) rfl hIsR hr0 (by omega) kFr kNr ⟨_, _, _, _, _, [], rfl, rfl, rfl, ⟨rfl, fun i v hv => by simp at hv⟩, rfl, (fun _ hb => nomatch hb), by omega, by omega⟩ ?turn ?done
  case turn =>
    clear hIsR kFr kNr kF kN hOld lF lN
    rintro i tki m₁ nx h₃ tk₃ own hi hadr hoff ⟨at₀, ta, nT, nB, bvs, bs, rfl, m1, m2, hbs, hbl, hbok, ha0, ha1⟩ F3 N3
    have F3 : Fr s₁.heap s₁.heap.objs.size h₃ _ := fr_sets [(Str.ofString "bodies", .ref Bo), (Str.ofString "tape", .ref Ta)] F3 (all2 (by dsimp only; rw [if_neg (by decide)]; exact m1) (by dsimp only; rw [if_neg (by decide)]; exact m2))
    simp only [kstB] at F3
    simp only [List.cons_append, List.nil_append] at N3
    simp only [List.map_cons, List.map_nil] at hoff
    k_with "exec For Name Call cons nil" => refine Hold.intro ?_
    have hi4 : i < 5 := by omega
    try k_fold
    k_steps
    refine Hold.of ?_
    clear hadr F3 N3
    rename Fr _ _ _ _ => lF
    rename News _ _ _ _ => lN
    with_unfolding_all refine For_invVF lF rfl rfl ?_
    k_steps
    refine Hold.of ?_
    refine' range_J (JI Bo Ta Ce (s₁.heap.objs.size + 1) oc cv nC bvs nB own (at₀ + 1)) rfl hIsR hr0 (by omega) kFr kNr ⟨_, _, _, _, #[], rfl, rfl, rfl, rfl, Nat.zero_le _, NoF.nil, by omega, by omega⟩ ?turn2 ?done2
    case turn2 =>
      clear hIsR kFr kNr kF kN hOld lF lN
      rintro j tkj m₂ nx2 h₄ tk₄ own2 hj hadr2 hoff2 ⟨at₂, ta₂, tb₂, nT₂, b, rfl, n1, n2, n3, hbsz, hbn, hb0, hb1⟩ F4 N4
      have F4 : Fr s₁.heap s₁.heap.objs.size h₄ _ := fr_sets [(Str.ofString "bodies", .ref Bo), (Str.ofString "tape", .ref Ta), (Str.ofString "body", .bytes b tb₂)] F4 (all3 (by dsimp only; rw [if_neg (by decide)]; exact n1) (by dsimp only; rw [if_neg (by decide)]; exact n2) (by dsimp only; rw [if_neg (by decide)]; exact n3))
      have hOT : ∀ p ∈ own ++ own2, p.1 ≠ Ta := fun p hp => (List.mem_append.mp hp).elim (OwnOff.ne hoff (by simp) p) (OwnOff.ne hoff2 (by simp) p)
      simp only [kstB] at F4
      simp only [List.cons_append, List.nil_append] at N4
      have hj6 : j < 6 := by omega
      k_with "subscriptTail" => k_dflt (
          (refine' pick_K ?pF ?pX ?pl ?pa ?pd ?pe ?pb ?_);
          (case pF => k_asm); (case pX => k_asm); (case pl => k_is); (case pa => decide +kernel); (case pd => decide); (case pe => omega); (case pb => (simp only [List.length_cons, List.length_nil]; omega));
          (intro c9 t9 hc9 hn9))
      k_with "subscriptTail" => k_dflt (
          (refine' pick_N ?pN ?pm ?pa ?pd ?pe ?pb ?_);
          (case pN => k_asm); (case pm => k_mem); (case pa => rfl); (case pd => exact Nat.le_of_ble_eq_true rfl); (case pe => omega); (case pb => (simp only [List.length_cons, List.length_nil]; omega));
          (intro c9 t9 hc9 hn9))
      k_with "binaryOp Add bytes bytes" => k_dflt ((refine KBy.add_bytes (by (try simp only [Array.size_append]); omega) ?_); (intro _ _))
      try k_fold
      k_steps
      rename Fr _ _ _ _ => kF9
      rename News _ _ _ _ => kN9
      refine' InvEndN.intro (nx := [(Bo, listOf bvs nB), (Ta, listOf #[.ref Ce, .int (at₂ + 1 + 1) ta'] nT'), (Ce, listOf cv.toArray nC), (s₁.heap.objs.size + 1, oc)] ++ own) kF9 kN9 ⟨at₂ + 1 + 1, _, _, _, _, rfl, ?e1, ?e2, ?e3, ?e4, ?e5, by omega, by omega⟩ rfl ?e6 ?e7
      case e1 => with_unfolding_all rfl
      case e2 => with_unfolding_all rfl
      case e3 => with_unfolding_all rfl
      case e4 =>
        simp only [Array.size_append]
        omega
      case e5 => exact NoF.app (NoF.app hbn (by assumption)) (by assumption)
      case e6 =>
        intro p hp
        simp only [List.mem_cons, List.mem_append, List.not_mem_nil, or_false] at hp ⊢
        rcases hp with (h | h | h | h) | h <;> simp [h]
      case e7 =>
        intro p hp
        simp [hp]
    case done2 =>
      clear hIsR kFr kNr kF kN hOld lF lN
      rintro m₂ nx2 h₄ tk₄ ⟨at₂, ta₂, tb₂, nT₂, b, rfl, n1, n2, n3, hbsz, hbn, hb0, hb1⟩ F4 N4
      have F4 : Fr s₁.heap s₁.heap.objs.size h₄ _ := fr_sets [(Str.ofString "bodies", .ref Bo), (Str.ofString "tape", .ref Ta), (Str.ofString "body", .bytes b tb₂)] F4 (all3 n1 n2 n3)
      have hOB : ∀ p ∈ own, p.1 ≠ Bo := OwnOff.ne hoff (by simp)
      simp only [kstB] at F4
      simp only [List.cons_append, List.nil_append] at N4
      have hbvs : bvs.size ≤ 100 := by rw [hbs.1]; omega
      dsimp only
      k_steps
      rename Fr _ _ _ _ => kF9
      rename News _ _ _ _ => kN9
      refine' InvEndN.intro (nx := [(Bo, listOf (bvs.push (.bytes b tb₂)) (nB + 1)), (Ta, listOf #[.ref Ce, .int at₂ ta₂] nT₂), (Ce, listOf cv.toArray nC), (s₁.heap.objs.size + 1, oc)]) kF9 kN9 ⟨at₂, _, _, _, _, bs ++ [b], rfl, ?e1, ?e2, BodiesAre.push hbs b tb₂, ?e3, ?e4, by omega, by omega⟩ rfl ?e6 ?e7
      case e1 => with_unfolding_all rfl
      case e2 => with_unfolding_all rfl
      case e3 => rw [List.length_append, hbl]; rfl
      case e4 =>
        intro c hc
        rcases List.mem_append.mp hc with hc | hc
        · exact hbok c hc
        · rw [List.mem_singleton] at hc
          subst hc
          exact ⟨by omega, hbn⟩
      case e6 =>
        intro p hp
        simp only [List.mem_cons, List.not_mem_nil, or_false] at hp ⊢
        rcases hp with h | h | h | h <;> simp [h]
      case e7 =>
        intro p hp
        simp [hp]
  case done =>
    clear hIsR kFr kNr kF kN hOld lF lN
    rintro m₁ nx h₃ tk₃ ⟨at₀, ta, nT, nB, bvs, bs, rfl, m1, m2, hbs, hbl, hbok, ha0, ha1⟩ F3 N3
    have F3 : Fr s₁.heap s₁.heap.objs.size h₃ _ := fr_sets [(Str.ofString "bodies", .ref Bo), (Str.ofString "tape", .ref Ta)] F3 (all2 m1 m2)
    simp only [kstB] at F3
    obtain ⟨n₀, hn4, hfree, htaken⟩ := least fun b hb => (hbok b hb).2
    have hlen5 : bs.length ≤ 5 := by omega
    dsimp only
    have hszs : ∀ b ∈ bs, b.size ≤ 1000 := fun b hb => Nat.le_trans (hbok b hb).1 (by decide)
    k_with "exec While Compare cons nil" => refine Hold.intro ?_
    k_steps
    refine Hold.of ?_
    k_with_none
    clear F3 N3
    rename Fr _ _ _ _ => lF
    rename News _ _ _ _ => lN
    rename Obj.data _ = Data.cell (some _) => hdW
    rename_i hW oW
    have lN2 : News s₁.heap s₁.heap.objs.size hW [(Bo, listOf bvs nB), (s₁.heap.objs.size + 1, oW)] := fun p hp => lN p (by
      simp only [List.mem_cons, List.not_mem_nil, or_false] at hp ⊢
      rcases hp with h | h <;> simp [h])
    refine' While_inv2 (JW Bo (s₁.heap.objs.size + 1) bvs nB n₀) lF lN2 ⟨0, _, oW, rfl, hdW, rfl, by omega, by omega, rfl⟩ ?_
    clear lF lN lN2 hdW
    rintro n mw nx h₅ tk₅ kF kN ⟨k, tk6, oc6, rfl, hoc6, hw1, hk0, hk1, hn⟩
    have kF := fr_sets [(Str.ofString "bodies", .ref Bo)] kF (all1 hw1)
    simp only [kstB] at kF
    have hkc : 0 ≤ k ∧ k ≤ 4 := by omega
    have hBC : @Ne Nat Bo (s₁.heap.objs.size + 1) := by omega
    k_with "eval ListComp Constant cons" => k_dflt (refine comp1 (x := Str.ofString "body") (qOf bs fun b => hind b (markOf k.toNat)) (by k_asm) (by with_unfolding_all rfl) (by decide) (by rfl) (by decide) (by rfl) (by rfl) ?_)
    k_with "Src1" => k_dflt (
      (refine ⟨Bo, bvs, nB, _, rfl, by k_asm, by k_asm, List.mem_cons_self, (by rw [hbs.1]; exact Nat.le_trans hlen5 (by decide)), ?ss3, ?ss4⟩);
      (case ss3 => (intro i v hv I oI C oC D3 ys3 m₂ hh3 tk3 E3 hC hx F9 N9; obtain ⟨b, tb, hbi, rfl⟩ := hbs.2 i v hv; have hszb := hszs b (List.mem_of_getElem? hbi); dsimp only; k_steps; (unfold qOf; rw [hbi]); assumption; (rename News _ _ _ _ => kN9; exact fun p hp => kN9 p (List.mem_cons_of_mem _ hp))));
      (intro D4 ys4 hh4 tk4 hyl hones F4 N4 hlt4; dsimp only; have hD9 : @LT.lt Nat _ (s₁.heap.objs.size + 1) D4 := hlt4 _ (List.mem_cons_of_mem _ List.mem_cons_self)))
    k_with "call ref" => k_dflt (
      (refine hinders_call _ _ _ _ (by rw [KBw.ints_length]; assumption) (by rw [KBw.ints_length, mark_size]; decide) _ _ _ _ _ _ _ _ _ _ _ _ _ _ _ _ _ _ (by k_asm) (by k_asm) (by k_asm) (by k_asm) (by k_asm) rfl (by ktr_room) (by ktr_units) ?_);
      (intro h9 tk9 F9 N9))
    k_with "call ref" => k_dflt (
      (have hkn : k = (n₀ : Int) := exit_eq hk0 hk1 htaken (by assumption));
      (subst hkn);
      (refine bound_call Bo bvs nB bs n₀ hbs (Nat.le_trans hlen5 (by decide)) hszs hn4 hfree htaken _ _ _ _ _ _ _ _ _ _ _ _ _ _ _ _ _ _ (by k_asm) (by k_asm) (by k_asm) (by k_asm) (by k_mem) (by k_asm) rfl (by ktr_room) (by ktr_units) ?_);
      (intro t9 h9 tk9 F9 N9))
    k_with "call type:bytes" => k_dflt ((refine KBa.make_K (ns := [48 + k]) (by k_asm) (by k_asm) rfl (News.isList (by k_asm) (by k_mem)) (.cons _ _ .nil) (in48 hkc) (Nat.le_of_ble_eq_true rfl) ?_); (intro _ _ _ F' N' hIn))
    k_with "binaryOp Add bytes bytes" => k_dflt ((refine add_to (hin_mark hkc) (by rw [mark_size]; decide) ?_); (intro _ _))
    k_with "compareOp NotEq ref ref" => k_dflt (refine ne_ones ⟨_, (News.here (by k_asm) (by k_mem)), rfl, _, rfl⟩ hones ⟨_, (News.here (by k_asm) (by k_mem)), rfl, _, rfl⟩ hyl hbs.1 (by ktr_units) ?_)
    k_with "compareOp Eq str str" => k_dflt (refine eq_same ?_)
    try k_fold
    k_steps
    · have hkn : k + 1 ≤ (n₀ : Int) := by
        rcases Int.lt_or_eq_of_le hk1 with g | g
        · omega
        · exfalso
          have e9 : k.toNat = n₀ := by omega
          rename (bs.any _) = true => hany
          rw [e9] at hany
          exact Bool.false_ne_true (hfree.symm.trans hany)
      rename Fr _ _ _ _ => kF9
      rename News _ _ _ _ => kN9
      rename Obj.data _ = Data.cell (some _) => kD9
      exact ⟨_, _, _, _, n₀ + 1 - (k + 1).toNat, rfl, kF9, fun p hp => kN9 p (List.mem_cons_of_mem _ (List.mem_cons_of_mem _ hp)), by omega, k + 1, _, _, rfl, kD9, by with_unfolding_all rfl, by omega, hkn, rfl⟩)
end PartLaw
end Mine

theorem PySem.Challenge.cw_no0345_01_holds : PySem.Challenge.rw_no0345_01.Holds :=
  Mine.law_holds
