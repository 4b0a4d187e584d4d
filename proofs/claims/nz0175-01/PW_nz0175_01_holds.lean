import PyProof.Rows.All
import Wide.All
import OpenK.AllK
import Wide.FinOn
import Lean
import PySem.Challenge.RW_nz0175_01
set_option Elab.async false
section
open PySem PySem.W PyProof.Rows
set_option Elab.async false
namespace Mine
set_option maxRecDepth 100000 in
set_option maxHeartbeats 8000000 in
open_top hd for PySem.Challenge.rw_nz0175_01
end Mine
end
section
open PySem PySem.W PyProof.Rows PySem.Calls PyProof.V PySem.Spec
set_option Elab.async false
namespace Mine
theorem tops : PySem.Challenge.rw_nz0175_01 = PySem.Challenge.rw_nz0175_01 ∧ hd.heap_39 = hd.heap_39 := ⟨rfl, rfl⟩

/-- the call of the def at f upon vs, from any frame of a def's, the ledger led: no raise; Post tells the value and the ledger -/
def Does (w : World) (d : Nat) (f : Addr) (vs : List Value) (led : List (Addr × Obj)) (Post : Value → List (Addr × Obj) → Prop) : Prop :=
  ∀ (mean : ExcName → Option Value) (mg mb : Str → Option Value) (A : Around) (env : Env) (outer : List Env) (A₀ : Around) (base h₀ : Heap) (L : Addr) (m : Str → Option Value) (s : Shared) (Q E : Value → Shared → Prop),
    A.handled = none → A.frames = some (env :: outer) → env.frame = some L → env.scope.kind = .function → A.depth + d < recursionLimit → A.units + 100 * d < cLine →
    Below A₀ base outer h₀ → Fr h₀ L s.heap m → (hd.heap_39 w.params).In h₀ → News h₀ L s.heap led → Top hd.view_39 (looseW hd.view_39 [Str.ofString "Limits"]) mean mg mb h₀ →
    (∀ v led' h' tk', Post v led' → Fr h₀ L h' m → News h₀ L h' led' → Q v { s with heap := h', toks := tk' }) →
    wpAny (model PySem.Challenge.rw_nz0175_01.row.prog w) A (call (.ref f) vs) Q E s

theorem Does.use {w : World} {d : Nat} {f : Addr} {vs : List Value} {led : List (Addr × Obj)} {Post : Value → List (Addr × Obj) → Prop} (D : Does w d f vs led Post)
    {mean : ExcName → Option Value} {mg mb : Str → Option Value} {A : Around} {env : Env} {outer : List Env} {A₀ : Around} {base h₀ : Heap} {L : Addr} {m : Str → Option Value} {s : Shared} {Q E : Value → Shared → Prop}
    (hh : A.handled = none) (hA : A.frames = some (env :: outer)) (hf : env.frame = some L) (hke : env.scope.kind = .function) (hdp : A.depth + d < recursionLimit) (hu : A.units + 100 * d < cLine)
    (B : Below A₀ base outer h₀) (F : Fr h₀ L s.heap m) (X : (hd.heap_39 w.params).In h₀) (N : News h₀ L s.heap led) (T : Top hd.view_39 (looseW hd.view_39 [Str.ofString "Limits"]) mean mg mb h₀)
    (h : ∀ v led' h' tk', Post v led' → Fr h₀ L h' m → News h₀ L h' led' → Q v { s with heap := h', toks := tk' }) :
    wpAny (model PySem.Challenge.rw_nz0175_01.row.prog w) A (call (.ref f) vs) Q E s := D _ _ _ _ _ _ _ _ _ _ _ _ _ _ hh hA hf hke hdp hu B F X N T h

/-- a stop for the walk, set by a line of one's own -/
def Hold (P : Prop) : Prop := P
theorem hold {P : Prop} (h : Hold P) : P := h
/-- the same of the code, the room told as it is -/
def DoesC (w : World) (d : Nat) (f : Addr) (vs : List Value) (led : List (Addr × Obj)) (Post : Value → List (Addr × Obj) → Prop) : Prop :=
  ∀ (mean : ExcName → Option Value) (mg mb : Str → Option Value) (A : Around) (env : Env) (outer : List Env) (A₀ : Around) (base h₀ : Heap) (L : Addr) (m : Str → Option Value) (s : Shared) (R : Result → Shared → Prop),
    A.handled = none → A.frames = some (env :: outer) → env.frame = some L → env.scope.kind = .function → A.depth + d < recursionLimit → A.units + 100 * d < cLine →
    Below A₀ base outer h₀ → Fr h₀ L s.heap m → (hd.heap_39 w.params).In h₀ → News h₀ L s.heap led → Top hd.view_39 (looseW hd.view_39 [Str.ofString "Limits"]) mean mg mb h₀ →
    (∀ v led' h' tk', Post v led' → Fr h₀ L h' m → News h₀ L h' led' → R (.ok (.ret v)) { s with heap := h', toks := tk' }) →
    codeAny (model PySem.Challenge.rw_nz0175_01.row.prog w) A (.call (.ref f) ⟨vs, []⟩) R s
def Sealed (P : Flow → Shared → Prop) (f : Flow) (s : Shared) : Prop := P f s
theorem skip0 {α : Type} {p a : α} {r : List α} (h : p ∈ r) : p ∈ a :: r := .tail _ h
theorem skip1 {α : Type} {p a b : α} {r : List α} (h : p ∈ a :: r) : p ∈ a :: b :: r := by
  rcases List.mem_cons.mp h with rfl | h
  · exact .head _
  · exact .tail _ (.tail _ h)
theorem fr_twice {h₀ h : Heap} {L : Addr} {a : Str} {u v : Option Value} {f : Str → Option Value} (F : Fr h₀ L h (fun q => if q = a then v else if q = a then u else f q)) : Fr h₀ L h (fun q => if q = a then v else f q) := by
  have e : (fun q => if q = a then v else if q = a then u else f q) = fun q => if q = a then v else f q := by
    funext q
    by_cases h : q = a <;> simp [h]
  rw [e] at F
  exact F
theorem subN {h₀ h : Heap} {L : Addr} {a b : List (Addr × Obj)} (N : News h₀ L h a) (hs : ∀ p ∈ b, p ∈ a) : News h₀ L h b := fun p hp => N p (hs p hp)

/-- the pen: the source list's address, the place -/
abbrev pen (pa la : Addr) (k : Nat) (tk : Tok) : Addr × Obj := (pa, listOf #[.ref la, .int (k : Int) tk] 0)

theorem mem_mid {a p : Addr × Obj} {pre post : List (Addr × Obj)} : p ∈ a :: (pre ++ post) ↔ p ∈ pre ++ a :: post := by
  simp only [List.mem_cons, List.mem_append]
  constructor
  · rintro (h | h | h)
    · exact .inr (.inl h)
    · exact .inl h
    · exact .inr (.inr h)
  · rintro (h | h | h)
    · exact .inr (.inl h)
    · exact .inl h
    · exact .inr (.inr h)

/-- what a call that draws leaves: the pen further on, the rest as it was -/
def PenPost (pa la : Addr) (pre post : List (Addr × Obj)) (R : Value → Nat → Prop) (v : Value) (led : List (Addr × Obj)) : Prop :=
  ∃ k t, R v k ∧ led = pre ++ pen pa la k t :: post
theorem Does.mid {w : World} {d : Nat} {f : Addr} {vs : List Value} {pa la : Addr} {k : Nat} {tk : Tok} {pre post : List (Addr × Obj)} {R : Value → Nat → Prop}
    (D : Does w d f vs (pen pa la k tk :: (pre ++ post)) (PenPost pa la [] (pre ++ post) R)) : Does w d f vs (pre ++ pen pa la k tk :: post) (PenPost pa la pre post R) := by
  intro mean mg mb A env outer A₀ base h₀ L m s Q E hh hA hf hke hdp hu B F X N T hret
  refine D.use hh hA hf hke hdp hu B F X (subN N fun p hp => mem_mid.mp hp) T ?_
  rintro v led' h' tk' ⟨k', t', hR, rfl⟩ F' N'
  exact hret _ _ _ _ ⟨k', t', hR, rfl⟩ F' (subN N' fun p hp => mem_mid.mpr hp)

section
variable {prog : Program} {w : World} {A : Around} {E : Value → Shared → Prop} {s : Shared} {h₀ : Heap} {L : Addr} {m : Str → Option Value} {env : Env}
open LCg in
theorem comp_ind {elt : Expr} {x : Str} {scope : Scope} {cl : List (Str × Addr)} {S : List (Addr × Obj) → Prop} {P : Nat → Value → Prop} {Fin : List Value → List (Addr × Obj) → Prop} (n : Nat)
    (Inv : Nat → List Value → List (Addr × Obj) → Prop)
    (step : ∀ i ys news v I oI C oC D m₂ h tk (E' : Value → Shared → Prop), i < n → Inv i ys news → P i v → NsObj oC m₂ → m₂ x = some v → Fr h₀ L h m → News h₀ L h ((I, oI) :: (C, oC) :: (D, lst ys) :: news) → Off3 I C D news → ((@Ne Nat I C) ∧ (@Ne Nat I D) ∧ (@Ne Nat C D)) →
      wpAny (model prog w) A (eval elt (compEnvC scope cl C env)) (CompEnd h₀ L m { s with heap := h, toks := tk } I oI C oC D (lst ys) S (fun y news' => Inv (i + 1) (ys ++ [y]) news')) E' { s with heap := h, toks := tk })
    (fin : ∀ ys news, Inv n ys news → Fin ys news) : ∀ k i ys news, i + k = n → Inv i ys news → CompRest prog w A h₀ L m env elt x scope cl s S P Fin k i ys news := by
  intro k
  induction k with
  | zero => intro i ys news e hI; obtain rfl : i = n := by omega
            exact CompRest.zero (fin ys news hI)
  | succ k ih =>
    intro i ys news e hI
    refine CompRest.succ fun v I oI C oC D m₂ h tk E' hP hC hx F N off ne => ?_
    refine wpAny_mono (step i ys news v I oI C oC D m₂ h tk E' (by omega) hI hP hC hx F N off ne) (fun y s₂ z => ?_) fun _ _ e => e
    obtain ⟨h', tk', news', e1, F', N', off', hS, r⟩ := z
    exact ⟨h', tk', news', e1, F', N', off', hS, ih (i + 1) _ _ (by omega) r⟩
end
end Mine
end
section
open PySem PySem.W PyProof.Rows PySem.Calls PyProof.V PySem.Spec
set_option Elab.async false
namespace Mine
/-- a text of its signs' numbers -/
abbrev T (l : List Nat) : Str := ⟨l.toArray⟩
abbrev ch (c : Nat) : Str := ⟨#[c]⟩
abbrev codesOf (x : Str) : List Nat := x.cps.toList
theorem T_codes (x : Str) : T (codesOf x) = x := by cases x; simp
theorem codes_T (l : List Nat) : codesOf (T l) = l := by simp
theorem len_codes (x : Str) : (codesOf x).length = x.length := by simp [Str.length]
theorem len_T (l : List Nat) : (T l).length = l.length := by simp [Str.length]
theorem nl_is : Str.ofString "\n" = ch 10 := by decide
theorem nil_is : Str.ofString "" = T [] := by decide
theorem eq_nil {y : Str} (h : (y == Str.ofString "") = true) : codesOf y = [] := by
  rw [beq_iff_eq.mp h, nil_is]
theorem ne_nil {y : Str} (h : (y == Str.ofString "") = false) : codesOf y ≠ [] := by
  intro e
  have : y = Str.ofString "" := by rw [nil_is, ← e, T_codes]
  rw [this, beq_self_eq_true] at h
  cases h
theorem charAt_in {x : Str} {i : Int} (h0 : 0 ≤ i) (h1 : i < x.length) : Txt.charAt x i = (codesOf x)[i.toNat]? := by
  obtain ⟨n, rfl⟩ := Int.eq_ofNat_of_zero_le h0
  have hn : n < x.length := by omega
  have e : seqIndex? (n : Int) x.length = some n := by
    unfold seqIndex?
    simp only [if_neg (show ¬ ((n : Int) < 0) by omega)]
    rw [if_pos (by simp; omega)]
    simp
  unfold Txt.charAt
  rw [e]
  simp [codesOf]
theorem item_in {x : Str} {i : Int} (h0 : 0 ≤ i) (h1 : i < x.length) : Txt.item x i = ch ((codesOf x).getD i.toNat 0) := by
  unfold Txt.item
  rw [charAt_in h0 h1]
  rfl
theorem slice_to {x : Str} {k : Int} (h0 : 0 ≤ k) (h1 : k ≤ x.length) : Txt.slice x none (some k) = T ((codesOf x).take k.toNat) := by
  have h := slice_closes_to (x := x) (j := k) ⟨h0, by rw [len_codes]; exact h1⟩
  have e := beq_iff_eq.mp h
  rw [e]
  simp
theorem slice_from {x : Str} {i : Int} (h0 : 0 ≤ i) (h1 : i ≤ x.length) : Txt.slice x (some i) none = T ((codesOf x).drop i.toNat) := by
  rw [slice_from_eq h0 h1 rfl]
  have : ((x.length : Int) - i).toNat = (x.cps.toList.drop i.toNat).length := by rw [List.length_drop]; have := len_codes x; unfold codesOf at this; omega
  rw [this, List.take_length]

def dropNl (l : List Nat) : List Nat := (l.reverse.dropWhile (· == 10)).reverse
theorem dropNl_is : ∀ (n : Nat) (l : List Nat) (k : Nat), l.length = k + n → (∀ j, k ≤ j → j < l.length → l[j]? = some 10) → (0 < k → l[k - 1]? ≠ some 10) → dropNl l = l.take k := by
  intro n
  induction n with
  | zero =>
    intro l k hl _ hne
    rw [Nat.add_zero] at hl
    rw [← hl, List.take_length]
    unfold dropNl
    cases hr : l.reverse with
    | nil => have : l = [] := by simpa using hr
             rw [this]; rfl
    | cons c r =>
      have e : l = r.reverse ++ [c] := by rw [← List.reverse_reverse l, hr]; simp
      have hc : l[k - 1]? = some c := by
        rw [e, ← hl, e]; simp
      have hk : 0 < k := by rw [← hl, e]; simp
      have : c ≠ 10 := fun q => hne hk (by rw [hc, q])
      rw [List.dropWhile_cons, if_neg (by simpa using this), e]; simp
  | succ n ih =>
    intro l k hl hall hne
    obtain ⟨r, c, rfl⟩ : ∃ r c, l = r ++ [c] := ⟨l.dropLast, l.getLast (by intro e; rw [e] at hl; simp at hl), (List.dropLast_concat_getLast _).symm⟩
    have hlen : r.length = k + n := by simp at hl; omega
    have hc : c = 10 := by
      have := hall r.length (by omega) (by simp)
      simpa using this
    subst hc
    have e1 : dropNl (r ++ [10]) = dropNl r := by
      unfold dropNl; simp
    rw [e1, ih r k hlen (fun j h1 h2 => by have := hall j h1 (by simp; omega); rwa [List.getElem?_append_left h2] at this) (fun hk => by
      have := hne hk
      rwa [List.getElem?_append_left (by omega)] at this), List.take_append_of_le_length (by omega)]
theorem dropNl_len (l : List Nat) : (dropNl l).length ≤ l.length := by
  unfold dropNl
  rw [List.length_reverse]
  exact Nat.le_trans (List.dropWhile_sublist _).length_le (by simp)
def chompL (l e : List Nat) : List Nat := if e = [] then dropNl l else if e.length ≤ l.length ∧ l.drop (l.length - e.length) = e then l.take (l.length - e.length) else l
/-- a text of signs below 128 -/
def Low (x : Str) : Prop := ∀ c ∈ codesOf x, c < 128
theorem Low.ok {x : Str} (h : Low x) : PyData.strOk x = true := by
  unfold PyData.strOk
  rw [Array.all_eq_true]
  intro i hi
  have := h (x.cps[i]) (by unfold codesOf; simp)
  simp; omega
theorem codes_app (x y : Str) : codesOf (x ++ y) = codesOf x ++ codesOf y := by
  show (x.cps ++ y.cps).toList = _
  simp
theorem codes_join : ∀ ws : List Str, codesOf (Txt.join (Str.ofString "") ws) = (ws.map codesOf).flatten := by
  intro ws
  unfold Txt.join
  rw [StrLaws.glued_eq_join]
  induction ws with
  | nil => rfl
  | cons x r ih =>
    cases r with
    | nil => simp [Str.join]
    | cons y r =>
      show codesOf (x ++ Str.ofString "" ++ Str.join (Str.ofString "") (y :: r)) = _
      rw [codes_app, codes_app, ih, nil_is, codes_T]
      simp
theorem join_chs (l : List Nat) : Txt.join (Str.ofString "") (l.map ch) = T l := by
  rw [← T_codes (Txt.join _ _), codes_join]
  congr 2
  induction l with
  | nil => rfl
  | cons c r ih => simp only [List.map_cons, List.flatten_cons, ih]; rfl
theorem low_join {ws : List Str} (h : ∀ x ∈ ws, Low x) : Low (Txt.join (Str.ofString "") ws) := by
  intro c hc
  rw [codes_join] at hc
  obtain ⟨l, hl, hc⟩ := List.mem_flatten.mp hc
  obtain ⟨x, hx, rfl⟩ := List.mem_map.mp hl
  exact h x hx c hc
theorem signs_is (x : Str) : signs x = (codesOf x).map ch := rfl
/-- what chomp_text gives: the text left, the count -/
def ChompIs (x y a : Str) (n : Int) : Prop := a = T (chompL (codesOf x) (codesOf y)) ∧ n = (x.length : Int) - ((chompL (codesOf x) (codesOf y)).length : Nat)

theorem chomp_nl {x y : Str} {k : Int} (hy : (y == Str.ofString "") = true) (h1 : k ≤ x.length) (h0 : min (x.length : Int) 0 ≤ k)
    (hall : ∀ j : Int, k < j → j ≤ x.length → (if 0 < j then if (Txt.item x (j - 1) == Str.ofString "\n") = true then true else false else false) = true)
    (hne : (if 0 < k then if (Txt.item x (k - 1) == Str.ofString "\n") = true then true else false else false) = false) :
    ChompIs x y (Txt.slice x none (some k)) ((x.length : Int) - k) := by
  have hk0 : 0 ≤ k := by omega
  obtain ⟨n, rfl⟩ := Int.eq_ofNat_of_zero_le hk0
  have hn : n ≤ x.length := by omega
  have hd : dropNl (codesOf x) = (codesOf x).take n := by
    refine dropNl_is (x.length - n) (codesOf x) n (by rw [len_codes]; omega) (fun j h2 h3 => ?_) fun hk => ?_
    · rw [len_codes] at h3
      have := hall (j + 1) (by omega) (by omega)
      rw [if_pos (by omega), show (((j : Int) + 1) - 1) = j by omega, item_in (by omega) (by omega), nl_is] at this
      have h4 : x.cps[j]? = some (x.cps[j]'h3) := Array.getElem?_eq_getElem h3
      simp [List.getD] at this
      rw [h4] at this
      simp [h4, ← this]
    · have := hne
      rw [if_pos (by omega), show ((n : Int) - 1) = ((n - 1 : Nat) : Int) by omega, item_in (by omega) (by omega), nl_is] at this
      have h3 : n - 1 < x.cps.size := by have : x.cps.size = x.length := rfl; omega
      have h4 : x.cps[n - 1]? = some (x.cps[n - 1]'h3) := Array.getElem?_eq_getElem h3
      simp [List.getD] at this
      rw [h4] at this
      simp [h4]
      simpa using this
  have hc : chompL (codesOf x) (codesOf y) = (codesOf x).take n := by
    unfold chompL
    rw [if_pos (eq_nil hy), hd]
  refine ⟨by rw [hc, slice_to (by omega) (by omega)]; rfl, ?_⟩
  rw [hc, List.length_take, len_codes]
  omega
theorem chomp_hit {x y : Str} (hy : (y == Str.ofString "") = false) (h1 : (y.length : Int) ≤ x.length) (hs : (Txt.slice x (some ((x.length : Int) - y.length)) none == y) = true) :
    ChompIs x y (Txt.slice x none (some ((x.length : Int) - y.length))) (y.length : Int) := by
  have e := beq_iff_eq.mp hs
  rw [slice_from (by omega) (by omega)] at e
  have hi : ((x.length : Int) - y.length).toNat = (codesOf x).length - (codesOf y).length := by rw [len_codes, len_codes]; omega
  rw [hi] at e
  have e' : (codesOf x).drop ((codesOf x).length - (codesOf y).length) = codesOf y := by rw [← codes_T ((codesOf x).drop _), e]
  have hc : chompL (codesOf x) (codesOf y) = (codesOf x).take ((codesOf x).length - (codesOf y).length) := by
    unfold chompL
    rw [if_neg (ne_nil hy), if_pos ⟨by rw [len_codes, len_codes]; omega, e'⟩]
  refine ⟨by rw [hc, slice_to (by omega) (by omega), hi], ?_⟩
  rw [hc, List.length_take, len_codes, len_codes]
  omega
theorem chomp_miss {x y : Str} (hy : (y == Str.ofString "") = false) (h1 : (y.length : Int) ≤ x.length) (hs : (Txt.slice x (some ((x.length : Int) - y.length)) none == y) = false) :
    ChompIs x y x 0 := by
  have hi : ((x.length : Int) - y.length).toNat = (codesOf x).length - (codesOf y).length := by rw [len_codes, len_codes]; omega
  have hc : chompL (codesOf x) (codesOf y) = codesOf x := by
    unfold chompL
    rw [if_neg (ne_nil hy), if_neg]
    rintro ⟨_, h3⟩
    rw [slice_from (by omega) (by omega), hi, h3, T_codes, beq_self_eq_true] at hs
    cases hs
  refine ⟨by rw [hc, T_codes], ?_⟩
  rw [hc, len_codes]
  omega
theorem chomp_short {x y : Str} (hy : (y == Str.ofString "") = false) (h1 : ¬ (y.length : Int) ≤ x.length) : ChompIs x y x 0 := by
  have hc : chompL (codesOf x) (codesOf y) = codesOf x := by
    unfold chompL
    rw [if_neg (ne_nil hy), if_neg]
    rintro ⟨h3, _⟩
    rw [len_codes, len_codes] at h3
    omega
  refine ⟨by rw [hc, T_codes], ?_⟩
  rw [hc, len_codes]
  omega

theorem chompL_len (x y : Str) : (chompL (codesOf x) (codesOf y)).length ≤ x.length := by
  rw [← len_codes x]
  unfold chompL
  split
  · exact dropNl_len _
  · split
    · rw [List.length_take]; omega
    · exact Nat.le_refl _
theorem sum_chs : ∀ l : List Nat, ((l.map ch).map (·.length)).sum = l.length
  | [] => rfl
  | c :: r => by rw [List.map_cons, List.map_cons, List.sum_cons, sum_chs r, List.length_cons]; show 1 + _ = _; omega
theorem dropNl_ten (r : List Nat) : dropNl (r ++ [10]) = dropNl r := by unfold dropNl; simp
theorem dropNl_stop {r : List Nat} {c : Nat} (h : c ≠ 10) : dropNl (r ++ [c]) = r ++ [c] := by
  unfold dropNl
  rw [List.reverse_append, List.reverse_singleton, List.singleton_append, List.dropWhile_cons, if_neg (by simpa using h)]
  simp
theorem chompL_nl {x y : Str} (hy : (y == Str.ofString "") = true) : chompL (codesOf x) (codesOf y) = dropNl (codesOf x) := by
  unfold chompL
  rw [if_pos (eq_nil hy)]
theorem nl_eq {c : Nat} (h : (ch c == Str.ofString "\n") = true) : c = 10 := by
  rw [nl_is] at h
  simpa using h
theorem nl_ne {c : Nat} (h : (ch c == Str.ofString "\n") = false) : c ≠ 10 := by
  rintro rfl
  rw [nl_is, beq_self_eq_true] at h
  cases h
theorem nil_or_snoc {α : Type} (l : List α) : l = [] ∨ ∃ r c, l = r ++ [c] := by
  rcases List.eq_nil_or_concat l with h | ⟨r, c, h⟩
  · exact .inl h
  · exact .inr ⟨r, c, by rw [h, List.concat_eq_append]⟩
theorem butlast_ix {n : Nat} (h : 1 ≤ n) : PySem.Builtin.Str.strSliceIndices none (some (-1)) 1 n = PySem.Builtin.Str.strSliceIndices none (some ((n : Int) - 1)) 1 n := by
  have h0 : ¬ ((n : Int) - 1 < 0) := by omega
  have h1 : (-1 : Int) < 0 := by decide
  have h2 : (1 : Int) > 0 := by decide
  simp only [PySem.Builtin.Str.strSliceIndices, h0, h1, h2, if_false, if_true]
  have e1 : min ((-1 : Int) + n) n = (n : Int) - 1 := by omega
  have e2 : min ((n : Int) - 1) n = (n : Int) - 1 := by omega
  rw [e1, e2]
theorem slice_butlast {x : Str} (h : 1 ≤ x.length) : Txt.slice x none (some (-1)) = T (codesOf x).dropLast := by
  have e : Txt.slice x none (some (-1)) = Txt.slice x none (some ((x.length : Int) - 1)) := by
    unfold Txt.slice
    rw [butlast_ix h]
  rw [e, slice_to (by omega) (by omega), List.dropLast_eq_take, len_codes]
  congr 2
  omega
theorem item_last {x : Str} (h : 1 ≤ x.length) : Txt.item x (-1) = T ((codesOf x).drop ((codesOf x).length - 1)) := by
  have e : seqIndex? (-1) x.length = some (x.length - 1) := by
    unfold seqIndex?
    simp only [if_pos (show ((-1 : Int) < 0) by decide)]
    rw [if_pos (by simp; omega)]
    congr 1
    omega
  unfold Txt.item Txt.charAt
  rw [e]
  have h3 : x.length - 1 < x.cps.size := by have : x.cps.size = x.length := rfl; omega
  have h5 : (codesOf x).length - 1 < (codesOf x).length := by rw [len_codes]; omega
  rw [List.drop_eq_getElem_cons h5, List.drop_eq_nil_of_le (by rw [len_codes]; omega)]
  simp only [Option.bind_some, Array.getElem?_eq_getElem h3, Option.getD_some]
  simp only [codesOf, Array.length_toList, Array.getElem_toList]
  rfl
theorem rev_is (x : Str) (u : Tok) : Txt.sliceBy x none none (-1, u) = T (codesOf x).reverse := by
  rw [← T_codes (Txt.sliceBy x none none (-1, u))]
  congr 2
  show (Txt.sliceBy x none none (-1, u)).cps.toList = _
  rw [step_rev_list]
  refine List.ext_getElem (by simp [Str.length]) fun i h1 h2 => ?_
  have hi : i < x.length := by simpa using h1
  have h3 : x.length - 1 - i < x.cps.size := by have : x.cps.size = x.length := rfl; omega
  simp only [List.getElem_map, List.getElem_range, List.getElem_reverse, codesOf, Array.getElem_toList, Array.length_toList]
  simp only [Array.getD, dif_pos h3]
  rfl
/-- what chop_text gives -/
def ChopIs (x a b : Str) : Prop := a = T (codesOf x).dropLast ∧ b = T ((codesOf x).drop ((codesOf x).length - 1))
theorem chop_nil {x : Str} (h : (x == Str.ofString "") = true) : ChopIs x (Str.ofString "") (Str.ofString "") := by
  unfold ChopIs
  rw [eq_nil h]
  exact ⟨nil_is, nil_is⟩
theorem chop_some {x : Str} (h : (x == Str.ofString "") = false) : ChopIs x (Txt.slice x none (some (-1))) (Txt.item x (-1)) := by
  have : 1 ≤ x.length := by
    rw [← len_codes]
    exact List.length_pos_iff.mpr (ne_nil h)
  exact ⟨slice_butlast this, item_last this⟩
end Mine
end
section
open PySem PySem.W PyProof.Rows PySem.Calls PyProof.V PySem.Spec
set_option Elab.async false
namespace Mine
theorem sa_drop : ∀ {vs : List Value} {ws : List Str} (k : Nat), StrsAre vs ws → StrsAre (vs.drop k) (ws.drop k)
  | _, _, 0, h => h
  | _, _, _ + 1, .nil => .nil
  | _, _, k + 1, .cons _ _ r => sa_drop k r
theorem sa_take : ∀ {vs : List Value} {ws : List Str} (k : Nat), StrsAre vs ws → StrsAre (vs.take k) (ws.take k)
  | _, _, 0, _ => .nil
  | _, _, _ + 1, .nil => .nil
  | _, _, k + 1, .cons y t r => .cons y t (sa_take k r)
theorem sa_reverse : ∀ {vs : List Value} {ws : List Str}, StrsAre vs ws → StrsAre vs.reverse ws.reverse
  | _, _, .nil => .nil
  | _, _, .cons y t r => by
    rw [List.reverse_cons, List.reverse_cons]
    exact (sa_reverse r).append' (.cons y t .nil)
theorem sa_get : ∀ {vs : List Value} {ws : List Str} {k : Nat} {x : Str}, StrsAre vs ws → ws[k]? = some x → ∃ t, vs[k]? = some (.str x t)
  | _, _, _, _, .nil, h => by simp at h
  | _, _, 0, _, .cons y t r, h => by simp at h; subst h; exact ⟨t, rfl⟩
  | _, _, k + 1, _, .cons y t r, h => by simpa using sa_get (k := k) r (by simpa using h)
theorem eqvAll_strs : ∀ ns ms : List Str, PyData.eqvAll (ns.map PyData.str) (ms.map PyData.str) = decide (ns = ms)
  | [], [] => by simp [PyData.eqvAll]
  | [], _ :: _ => by simp [PyData.eqvAll]
  | _ :: _, [] => by simp [PyData.eqvAll]
  | a :: r, b :: t => by
    simp only [List.map_cons, PyData.eqvAll, PyData.eqv, eqvAll_strs r t]
    by_cases h : a = b <;> by_cases h' : r = t <;> simp [h, h']
theorem canLay_strs : ∀ ns : List Str, (∀ x ∈ ns, Low x) → PyData.canLayAll0 (ns.map PyData.str) = true
  | [], _ => rfl
  | x :: r, h => by simp [PyData.canLayAll0, PyData.canLay0, canLay_strs r fun y hy => h y (.tail _ hy), (h x (.head _)).ok]
theorem depth_strs : ∀ ns : List Str, PyData.depthAll (ns.map PyData.str) = 0
  | [] => rfl
  | _ :: r => by simp [PyData.depthAll, PyData.depth, depth_strs r]
theorem shaped_strs {ns : List Str} (h : ∀ x ∈ ns, Low x) : SeqAt.shaped (.list (ns.map PyData.str)) = true := by
  simp [SeqAt.shaped, PyData.canLay0, PyData.depth, canLay_strs ns h, depth_strs]
theorem low_chs {l : List Nat} (h : ∀ c ∈ l, c < 128) : ∀ x ∈ l.map ch, Low x := by
  intro x hx
  obtain ⟨c, hc, rfl⟩ := List.mem_map.mp hx
  intro d hd
  have : d = c := by simpa [codesOf] using hd
  rw [this]; exact h c hc
theorem map_ch_inj : ∀ {a b : List Nat}, (a.map ch = b.map ch) ↔ a = b
  | [], [] => by simp
  | [], _ :: _ => by simp
  | _ :: _, [] => by simp
  | x :: r, y :: q => by simp [map_ch_inj (a := r) (b := q)]

theorem elif_slice {l e : List Nat} (hle : e.length ≤ l.length) :
    List.take (kms_hi none (l.map ch).length - kms_lo (some (((l.map ch).length : Int) - (e.length : Nat))) (l.map ch).length) (List.drop (kms_lo (some (((l.map ch).length : Int) - (e.length : Nat))) (l.map ch).length) (l.map ch)) = (l.drop (l.length - e.length)).map ch := by
  have e1 : kms_lo (some (((l.map ch).length : Int) - (e.length : Nat))) (l.map ch).length = l.length - e.length := by
    simp only [kms_lo, List.length_map]
    rw [if_neg (by omega)]
    omega
  rw [e1, show kms_hi none (l.map ch).length = l.length by simp [kms_hi], List.map_drop, List.take_of_length_le (by simp)]
theorem elif_cut {l e : List Nat} (hle : e.length ≤ l.length) :
    List.take (kms_hi (some (((l.map ch).length : Int) - (e.length : Nat))) (l.map ch).length - kms_lo none (l.map ch).length) (List.drop (kms_lo none (l.map ch).length) (l.map ch)) = (l.take (l.length - e.length)).map ch := by
  have e1 : kms_hi (some (((l.map ch).length : Int) - (e.length : Nat))) (l.map ch).length = l.length - e.length := by
    simp only [kms_hi, List.length_map]
    rw [if_neg (by omega)]
    omega
  rw [e1, show kms_lo none (l.map ch).length = 0 from rfl, List.map_take]
  simp
theorem chompL_miss {l e : List Nat} (he : e ≠ []) (h : ¬ (e.length ≤ l.length ∧ l.drop (l.length - e.length) = e)) : chompL l e = l := by
  unfold chompL
  rw [if_neg he, if_neg h]
theorem chompL_hit {l e : List Nat} (he : e ≠ []) (h : e.length ≤ l.length ∧ l.drop (l.length - e.length) = e) : chompL l e = l.take (l.length - e.length) := by
  unfold chompL
  rw [if_neg he, if_pos h]

section
variable {prog : Program} {w : World} {A : Around} {E : Value → Shared → Prop} {s : Shared} {h₀ : Heap} {L D : Addr} {m : Str → Option Value} {news news' : List (Addr × Obj)} {n : Nat} {vs : List Value} {ws : List Str}
theorem len_strs {Q : Value → Shared → Prop} (hl : s.heap.IsList D vs.toArray) (hi : StrsAre vs ws) (hf : ws.length < 2 ^ 62)
    (h : Q (.int (ws.length : Nat) (s.toks + 1)) { s with toks := s.toks + 1 + 1 }) : wpAny (model prog w) A (call (.builtin "len") [.ref D]) Q E s := by
  have e : vs.toArray.size = ws.length := by simp [hi.length]
  refine Calls.call_len_list hl (by omega) ?_
  rw [e]
  exact h
theorem eq_strs {a b : Addr} {xs ys : List Value} {ns ms : List Str} {Q : Value → Shared → Prop} (ha : s.heap.IsList a xs.toArray) (hb : s.heap.IsList b ys.toArray) (hi : StrsAre xs ns) (hj : StrsAre ys ms)
    (ln : ∀ x ∈ ns, Low x) (lm : ∀ x ∈ ms, Low x) (hu : A.units + 64 < cLine) (h : Q (.bool (decide (ns = ms))) s) : wpAny (model prog w) A (compareOp .Eq (.ref a) (.ref b)) Q E s :=
  eq_dataH (reads_newData ha hi.carried) (reads_newData hb hj.carried) (shaped_strs ln) (shaped_strs lm) hu (by rw [PyData.eqv, eqvAll_strs]; exact h)
theorem ne_strs {a b : Addr} {xs ys : List Value} {ns ms : List Str} {Q : Value → Shared → Prop} (ha : s.heap.IsList a xs.toArray) (hb : s.heap.IsList b ys.toArray) (hi : StrsAre xs ns) (hj : StrsAre ys ms)
    (ln : ∀ x ∈ ns, Low x) (lm : ∀ x ∈ ms, Low x) (hu : A.units + 64 < cLine) (h : Q (.bool (!decide (ns = ms))) s) : wpAny (model prog w) A (compareOp .NotEq (.ref a) (.ref b)) Q E s :=
  ne_dataH (reads_newData ha hi.carried) (reads_newData hb hj.carried) (shaped_strs ln) (shaped_strs lm) hu (by rw [PyData.eqv, eqvAll_strs]; exact h)
theorem last_strs {value slice : Expr} {u : Tok} {x : Str} {Q : Value → Shared → Prop} (hl : s.heap.IsList D vs.toArray) (hi : StrsAre vs ws) (hx : ws.getLast? = some x) (h : ∀ t, Q (.str x t) s)
    (hs : subscripted slice false (.ref D) (.int (-1) u) = operate [.ref D, .int (-1) u] (getItem (.ref D) (.int (-1) u)) := by with_unfolding_all rfl) :
    wpAny (model prog w) A (subscriptTail value slice (.ref D) (.int (-1) u)) Q E s := by
  have hne : ws ≠ [] := by rintro rfl; simp at hx
  have hl1 : 1 ≤ ws.length := List.length_pos_iff.mpr hne
  have hvl : vs.length = ws.length := hi.length
  rw [List.getLast?_eq_getElem?] at hx
  obtain ⟨t, ht⟩ := sa_get hi hx
  refine tail_any hl.typeIs slot_list_getitem.lookup (wpAny_getItem_list_neg hl (by decide) (by simp; omega) (by decide) (x := .str x t) ?_ (h t)) hs
  rw [show ((-1 : Int) + (vs.toArray.size : Nat)).toNat = ws.length - 1 by simp; omega]
  simpa using ht
theorem pop_strs {Q : Value → Shared → Prop} (F : Fr h₀ L s.heap m) (N : News h₀ L s.heap news) (U : Upd D (listOf vs.toArray n) (listOf vs.dropLast.toArray (n + 1)) news news') (hi : StrsAre vs ws) (hne : ws ≠ []) (hz : ws.length ≤ sizeLine)
    (h : ∀ v h', Fr h₀ L h' m → News h₀ L h' news' → StrsAre vs.dropLast ws.dropLast → Q v { s with heap := h' }) : wpAny (model prog w) A (call (.builtin "list.pop") [.ref D]) Q E s := by
  have hvl : vs.length = ws.length := hi.length
  have hvne : vs ≠ [] := by rintro rfl; simp at hvl; exact hne (List.length_eq_zero_iff.mp hvl.symm)
  have e : vs.dropLast ++ [vs.getLast hvne] = vs := List.dropLast_concat_getLast hvne
  refine kl_pop F N (p := vs.dropLast) (y := vs.getLast hvne) ?_ U (by simp; omega) fun h' F' N' => h _ h' F' N' ?_
  · have := kpa_last (vs.getLast hvne) vs.dropLast
    rw [e] at this
    simpa using this
  · rw [List.dropLast_eq_take, List.dropLast_eq_take, hvl]
    exact sa_take _ hi
theorem reverse_strs {Q : Value → Shared → Prop} (F : Fr h₀ L s.heap m) (N : News h₀ L s.heap news) (U : Upd D (listOf vs.toArray n) (listOf vs.reverse.toArray n) news news') (hi : StrsAre vs ws) (hz : ws.length ≤ sizeLine)
    (h : ∀ h', Fr h₀ L h' m → News h₀ L h' news' → StrsAre vs.reverse ws.reverse → Q .none { s with heap := h' }) : wpAny (model prog w) A (call (.builtin "list.reverse") [.ref D]) Q E s := by
  have hvl : vs.length = ws.length := hi.length
  exact kl_reverse F N (l := vs.reverse) (by simp) U (by simp; omega) fun h' F' N' => h h' F' N' (sa_reverse hi)
theorem slice_strs {value slice : Expr} {vl vu : Value} {lo hi : Option Int} {Q : Value → Shared → Prop} (F : Fr h₀ L s.heap m) (N : News h₀ L s.heap news) (hl : s.heap.IsList D vs.toArray) (hi' : StrsAre vs ws) (pl : IsPart vl lo) (pu : IsPart vu hi) (hz : ws.length ≤ sizeLine)
    (h : ∀ D' us h', Fr h₀ L h' m → News h₀ L h' ((D', listOf us.toArray 0) :: news) → (∀ p ∈ news, p.1 < D') → StrsAre us ((ws.drop (kms_lo lo ws.length)).take (kms_hi hi ws.length - kms_lo lo ws.length)) → Q (.ref D') { s with heap := h' })
    (hs : subscripted slice false (.ref D) (.ref s.heap.objs.size) = operate [.ref s.heap.objs.size, .ref D] (getItem (.ref D) (.ref s.heap.objs.size)) := by with_unfolding_all rfl) (ht : ∀ r, letTemporaryGo value (.ref D) r = pure () := by intro _; with_unfolding_all rfl) :
    wpAny (model prog w) A (subscriptTail value slice (.ref D) (.ref s.heap.objs.size)) Q E { s with heap := s.heap.push { cls := .type "slice", data := .fields #[vl, vu, .none] } } := by
  have hvl : vs.length = ws.length := hi'.length
  refine kms_slice_lit F N hl pl pu rfl (fun D' h' F' N' l1 => h D' _ h' F' N' l1 ?_) hs ht (by simp; omega)
  unfold kms_pick
  simp only [hvl]
  exact sa_take _ (sa_drop _ hi')
end
end Mine
end
section
open PySem PySem.W PyProof.Rows PySem.Calls PyProof.V PySem.Spec
set_option Elab.async false
namespace Mine
set_option pp.deepTerms false
set_option pp.maxSteps 5000

local macro_rules | `(tactic| k_mem) => `(tactic| assumption)
local macro_rules | `(tactic| walk_at "setItem ref int") => `(tactic| (k_here; (refine ki_set (by k_asm) (by k_asm) (by decide) (by decide) rfl (Upd.head (by assumption)) ?_); (intro h' F' N'); (try k_sweep)))
local macro_rules | `(tactic| walk_at "call builtin:len") => `(tactic| (k_here; (with_reducible show wpAny _ _ (call (Value.builtin _) [Value.ref _]) _ _ _); (refine len_ints_fit (News.isList (by k_asm) (by k_mem)) (by assumption) (by omega) ?_)))

set_option maxRecDepth 100000 in
set_option maxHeartbeats 8000000 in
theorem draw0 {w : World} {pa la : Addr} {k n : Nat} {tk : Tok} {vs : List Value} {ns : List Int} {rest : List (Addr × Obj)}
    (hl : (la, listOf vs.toArray n) ∈ rest) (hi : IntsAre vs ns) (h16 : 16 ≤ ns.length) (h64 : ns.length ≤ 64) (off : ∀ p ∈ rest, p.1 ≠ pa) (_hk : k < 1000000) :
    Does w 1 124 [.ref pa] (pen pa la k tk :: rest) (PenPost pa la [] rest fun v k' => (∃ j t, v = .int j t) ∧ k' = k + 1) := by
  have kf : PySem.Challenge.rw_nz0175_01 = PySem.Challenge.rw_nz0175_01 ∧ hd.heap_39 = hd.heap_39 := by k_fill; exact ⟨rfl, rfl⟩
  clear kf
  unfold Does
  intro mean mg mb A env outer A₀ base h₀ L m s Q E hh hA hf hke hdp hu B F X N T hret
  refine wpAny_call ?_
  k_dflt (refine' code_def (binds := [(Str.ofString "pen", .ref pa)]) B F X N T hA hf hke ?k6 ?k7 ?k8 ?k9 ?kB ?_ ?c2 ?c3 ?c4 ?c5; (case k6 => k_is); (case k7 => k_is); (case k8 => omega); (case k9 => exact BindsTo.of_eq rfl); (case c5 => decide); (case kB => exact locs rfl); (case c2 => exact rfl); (case c3 => exact rfl); (case c4 => exact rfl); k_whole; intro g' L' h' FG' F' N' B' X' T'; (try dsimp only))
  k_steps
  exact hret _ _ _ _ ⟨_, _, ⟨⟨_, _, rfl⟩, rfl⟩, rfl⟩ (by assumption) (by assumption)

theorem draw_does {w : World} {pa la : Addr} {k n : Nat} {tk : Tok} {vs : List Value} {ns : List Int} {pre post : List (Addr × Obj)}
    (hl : (la, listOf vs.toArray n) ∈ pre ++ post) (hi : IntsAre vs ns) (h16 : 16 ≤ ns.length) (h64 : ns.length ≤ 64) (off : ∀ p ∈ pre ++ post, p.1 ≠ pa) (hk : k < 1000000) :
    Does w 1 124 [.ref pa] (pre ++ pen pa la k tk :: post) (PenPost pa la pre post fun v k' => (∃ j t, v = .int j t) ∧ k' = k + 1) := (draw0 hl hi h16 h64 off hk).mid
end Mine
end
section
open PySem PySem.W PyProof.Rows PySem.Calls PyProof.V PySem.Spec
set_option Elab.async false
namespace Mine
set_option pp.deepTerms false
set_option pp.maxSteps 3000

local macro_rules | `(tactic| k_mem) => `(tactic| assumption)
local macro_rules | `(tactic| walk_at "CompSrc") => `(tactic| refine hold ?_)
local macro_rules | `(tactic| walk_at "call ref") => `(tactic| ((with_reducible show wpAny _ _ (call (Value.ref 124) [_]) _ _ _); refine hold ?_))
theorem len_ones : ∀ ws : List Str, (∀ x ∈ ws, x.length = 1) → (ws.map (·.length)).sum = ws.length
  | [], _ => rfl
  | x :: r, h => by
    rw [List.map_cons, List.sum_cons, List.length_cons, len_ones r fun y hy => h y (.tail _ hy), h x (.head _)]; omega
theorem low_item (j : Int) : Low (Txt.item (Str.ofString "ab-7 \n") (j.fmod 6)) := by
  have hlo : 0 ≤ j.fmod 6 := fmod_lo j (by decide)
  have hhi : j.fmod 6 < 6 := fmod_hi j (by decide)
  obtain ⟨n, hn⟩ := Int.eq_ofNat_of_zero_le hlo
  rw [hn] at hhi ⊢
  have h6 : n < 6 := by omega
  rw [item_in (by omega) (by show (n : Int) < ((Str.ofString "ab-7 \n").length : Nat); rw [show (Str.ofString "ab-7 \n").length = 6 by decide]; omega)]
  intro c hc
  rw [show codesOf (Str.ofString "ab-7 \n") = [97, 98, 45, 55, 32, 10] by decide] at hc
  have hc' : c = [97, 98, 45, 55, 32, 10].getD n 0 := by simpa using hc
  subst hc'
  have : n = 0 ∨ n = 1 ∨ n = 2 ∨ n = 3 ∨ n = 4 ∨ n = 5 := by omega
  rcases this with rfl | rfl | rfl | rfl | rfl | rfl <;> decide
theorem join0_len (ws : List Str) : (Txt.join (Str.ofString "") ws).length ≤ (ws.map (·.length)).sum := by
  have h := StrLaws.join_length_le (Str.ofString "") ws
  rw [← StrLaws.glued_eq_join] at h
  have e : (Str.ofString "").length = 0 := by decide
  rw [e] at h
  exact h
set_option maxRecDepth 100000 in
set_option maxHeartbeats 8000000 in
theorem word0 {w : World} {pa la : Addr} {k n : Nat} {tk : Tok} {vs : List Value} {ns : List Int} {rest : List (Addr × Obj)}
    (hl : (la, listOf vs.toArray n) ∈ rest) (hi : IntsAre vs ns) (h16 : 16 ≤ ns.length) (h64 : ns.length ≤ 64) (off : ∀ p ∈ rest, p.1 ≠ pa) (hk : k < 10000) :
    Does w 2 129 [.ref pa] (pen pa la k tk :: rest) (PenPost pa la [] rest fun v k' => (∃ x t, v = .str x t ∧ x.length ≤ 5 ∧ Low x) ∧ k' ≤ k + 6) := by
  have kf : PySem.Challenge.rw_nz0175_01 = PySem.Challenge.rw_nz0175_01 ∧ hd.heap_39 = hd.heap_39 := by k_fill; exact ⟨rfl, rfl⟩
  clear kf
  unfold Does
  intro mean mg mb A env outer A₀ base h₀ L m s Q E hh hA hf hke hdp hu B F X N T hret
  obtain ⟨hdl, dep, frs, gds, un⟩ := A
  dsimp only at hh hA hdp hu
  subst hh hA
  refine wpAny_call ?_
  k_dflt (refine' code_defC (binds := [(Str.ofString "pen", .ref pa)]) B F X N T rfl hf hke ?k6 ?k7 ?k8 ?k9 ?kB ?kD ?_ ?c2 ?c3 ?c4; (case k6 => k_is); (case k7 => k_is); (case k8 => (show dep < _; omega)); (case k9 => exact BindsTo.of_eq rfl); (case kB => exact rfl); (case kD => decide +kernel); (case c2 => exact rfl); (case c3 => exact rfl); (case c4 => exact rfl); k_whole)
  intro g' L' h' tk' cells' FG' F' N' Y' B' X' T' l1
  k_cells Y'
  rename_i oc dc
  (try simp only [List.cons_append, List.nil_append] at N')
  (try dsimp only)
  have hpL : pa < L' := l1 (pa, _) (.head _)
  have off2 : ∀ p ∈ [(L' + 1, oc)] ++ rest, p.1 ≠ pa := by
    intro p hp
    rcases List.mem_cons.mp hp with rfl | hp
    · exact Nat.ne_of_gt (Nat.lt_succ_of_lt hpL)
    · exact off p hp
  k_steps
  unfold Hold
  refine (draw_does (pre := [(L' + 1, oc)]) (List.mem_cons_of_mem _ hl) (by assumption) h16 h64 off2 (Nat.lt_of_lt_of_le hk (by decide))).use (by exact rfl) (by exact rfl) (by exact rfl) (by exact rfl) (by show dep + 1 + 1 < _; omega) (by show un + 3 + 100 * 1 < _; omega) (by exact B') (by k_asm) (by exact X') (by k_asm) (by exact T') ?_
  rintro v led' h₂ tk₂ ⟨_, t', ⟨⟨j, t, rfl⟩, rfl⟩, rfl⟩ F₂ N₂
  dsimp only
  k_steps
  unfold Hold
  have hlo : 0 ≤ j.fmod 6 := fmod_lo j (by decide)
  have hhi : j.fmod 6 < 6 := fmod_hi j (by decide)
  obtain ⟨n6, hn6⟩ := Int.eq_ofNat_of_zero_le hlo
  refine LCg.CompSrc.range (n := n6) (by rfl) (by k_asm) (by k_asm) (by assumption) (small_one (by omega) (by omega) (by omega) (by omega)) (by rw [hn6]; exact rangeSize_nat _ _) (by rw [sizeLine_eq]; omega) ?_
  intro gg
  refine comp_ind n6 (fun i ys news => ∃ k' t' ws, k' = k + 1 + i ∧ news = [(L' + 1, oc)] ++ pen pa la k' t' :: rest ∧ ys.length = i ∧ StrsAre ys ws ∧ ∀ x ∈ ws, x.length = 1 ∧ Low x) ?_ ?_ n6 0 [] _ (by omega) ⟨k + 1, t', [], rfl, rfl, rfl, .nil, by simp⟩
  · rintro i ys news v I oI C oC D m₂ h₃ tk₃ E' hi6 ⟨k', t3, ws, rfl, rfl, hys, hws, h1⟩ ⟨tv, rfl⟩ hC hx F₃ N₃ off₃ ne₃
    k_steps
    unfold Hold
    have off4 : ∀ p ∈ [(I, oI), (C, oC), (D, LCg.lst ys), (L' + 1, oc)] ++ rest, p.1 ≠ pa := by
      have hp := off₃.mem (pen pa la (k + 1 + i) t3) (by simp)
      simp only [List.cons_append, List.nil_append, List.forall_mem_cons]
      exact ⟨Ne.symm hp.1, Ne.symm hp.2.1, Ne.symm hp.2.2, off2 _ (.head _), off⟩
    refine (draw_does (k := k + 1 + i) (tk := t3) (pre := [(I, oI), (C, oC), (D, LCg.lst ys), (L' + 1, oc)]) (List.mem_append_right _ hl) (by assumption) h16 h64 off4 (by omega)).use (by exact rfl) (by exact rfl) (by exact rfl) (by exact rfl) (by show dep + 1 + 1 < _; omega) (by show un + 3 + 100 * 1 < _; omega) (by exact B') (by k_asm) (by exact X') (by k_asm) (by exact T') ?_
    rintro v led' h₄ tk₄ ⟨_, t4, ⟨⟨j4, t5, rfl⟩, rfl⟩, rfl⟩ F₄ N₄
    dsimp only
    k_steps
    refine LCg.CompEnd.intro (by assumption) (by assumption) ([(L' + 1, oc)] ++ pen pa la (k + 1 + i + 1) t4 :: rest) ?_ ?_ trivial ?_
    · intro p hp
      simpa using hp
    · exact off₃
    · exact ⟨_, t4, ws ++ [_], rfl, rfl, by simp [hys], hws.append' (.cons _ _ .nil), by
        intro x hx
        rcases List.mem_append.mp hx with hx | hx
        · exact h1 x hx
        · rw [List.mem_singleton.mp hx]; exact ⟨rfl, low_item j4⟩⟩
  · rintro ys news ⟨k', t3, ws, rfl, rfl, hys, hws, h1⟩
    k_steps
    have hsum : (ws.map (·.length)).sum = ws.length := len_ones ws fun x hx => (h1 x hx).1
    have hwl : ws.length = n6 := by rw [← hws.length, hys]
    refine join_listW (News.isList (by assumption) (by exact .head _)) hws (by decide) (by rw [hsum]; omega) ?_
    intro t6 k6
    dsimp only
    k_steps
    rename News h₀ L _ _ => kN
    exact hret _ _ _ _ ⟨k + 1 + n6, t3, ⟨⟨_, _, rfl, Nat.le_trans (join0_len ws) (by rw [hsum]; omega), low_join fun x hx => (h1 x hx).2⟩, (by omega)⟩, rfl⟩ (by assumption) (subN kN fun p hp => .tail _ (.tail _ hp))
theorem word_does {w : World} {pa la : Addr} {k n : Nat} {tk : Tok} {vs : List Value} {ns : List Int} {pre post : List (Addr × Obj)}
    (hl : (la, listOf vs.toArray n) ∈ pre ++ post) (hi : IntsAre vs ns) (h16 : 16 ≤ ns.length) (h64 : ns.length ≤ 64) (off : ∀ p ∈ pre ++ post, p.1 ≠ pa) (hk : k < 10000) :
    Does w 2 129 [.ref pa] (pre ++ pen pa la k tk :: post) (PenPost pa la pre post fun v k' => (∃ x t, v = .str x t ∧ x.length ≤ 5 ∧ Low x) ∧ k' ≤ k + 6) := (word0 hl hi h16 h64 off hk).mid
end Mine
end
section
open PySem PySem.W PyProof.Rows PySem.Calls PyProof.V PySem.Spec
set_option Elab.async false
namespace Mine
set_option pp.deepTerms false
set_option pp.maxSteps 3000

abbrev tup (vs : List Value) : Obj := { cls := .type "tuple", data := .seq vs.toArray }
set_option maxRecDepth 100000 in
set_option maxHeartbeats 8000000 in
theorem rev_does {w : World} {x : Str} {t : Tok} {led : List (Addr × Obj)} (hx : x.length ≤ 20) :
    Does w 1 60 [.str x t] led (fun v led' => led' = led ∧ ∃ t', v = .str (T (codesOf x).reverse) t') := by
  have kf : PySem.Challenge.rw_nz0175_01 = PySem.Challenge.rw_nz0175_01 ∧ hd.heap_39 = hd.heap_39 := by k_fill; exact ⟨rfl, rfl⟩
  clear kf
  unfold Does
  intro mean mg mb A env outer A₀ base h₀ L m s Q E hh hA hf hke hdp hu B F X N T hret
  obtain ⟨hdl, dep, frs, gds, un⟩ := A
  dsimp only at hh hA hdp hu
  subst hh hA
  refine wpAny_call ?_
  k_dflt (refine' code_def (binds := [(Str.ofString "text", .str x t)]) B F X N T rfl hf hke ?k6 ?k7 ?k8 ?k9 ?kB ?_ ?c2 ?c3 ?c4 ?c5; (case k6 => k_is); (case k7 => k_is); (case k8 => (show dep < _; omega)); (case k9 => exact BindsTo.of_eq rfl); (case c5 => decide); (case kB => exact locs rfl); (case c2 => exact rfl); (case c3 => exact rfl); (case c4 => exact rfl); k_whole)
  intro g' L' h' FG' F' N' B' X' T'
  (try dsimp only)
  k_steps
  rw [rev_is]
  exact hret _ _ _ _ ⟨rfl, _, rfl⟩ (by assumption) (by assumption)
set_option maxRecDepth 100000 in
set_option maxHeartbeats 8000000 in
theorem chop_does {w : World} {x : Str} {t : Tok} {led : List (Addr × Obj)} (hx : x.length ≤ 20) :
    Does w 1 81 [.str x t] led (fun v led' => ∃ D a b ta tb, v = .ref D ∧ ChopIs x a b ∧ led' = (D, tup [.str a ta, .str b tb]) :: led) := by
  have kf : PySem.Challenge.rw_nz0175_01 = PySem.Challenge.rw_nz0175_01 ∧ hd.heap_39 = hd.heap_39 := by k_fill; exact ⟨rfl, rfl⟩
  clear kf
  unfold Does
  intro mean mg mb A env outer A₀ base h₀ L m s Q E hh hA hf hke hdp hu B F X N T hret
  obtain ⟨hdl, dep, frs, gds, un⟩ := A
  dsimp only at hh hA hdp hu
  subst hh hA
  refine wpAny_call ?_
  k_dflt (refine' code_def (binds := [(Str.ofString "text", .str x t)]) B F X N T rfl hf hke ?k6 ?k7 ?k8 ?k9 ?kB ?_ ?c2 ?c3 ?c4 ?c5; (case k6 => k_is); (case k7 => k_is); (case k8 => (show dep < _; omega)); (case k9 => exact BindsTo.of_eq rfl); (case c5 => decide); (case kB => exact locs rfl); (case c2 => exact rfl); (case c3 => exact rfl); (case c4 => exact rfl); k_whole)
  intro g' L' h' FG' F' N' B' X' T'
  (try dsimp only)
  k_steps
  · exact hret _ _ _ _ ⟨_, _, _, _, _, rfl, chop_nil (by assumption), rfl⟩ (by assumption) (by assumption)
  · exact hret _ _ _ _ ⟨_, _, _, _, _, rfl, chop_some (by assumption), rfl⟩ (by assumption) (by assumption)
set_option maxRecDepth 100000 in
set_option maxHeartbeats 8000000 in
theorem chomp_does {w : World} {x y : Str} {t u : Tok} {led : List (Addr × Obj)} (hx : x.length ≤ 20) (hy : y.length ≤ 20) :
    Does w 1 88 [.str x t, .str y u] led (fun v led' => ∃ D a n ta tn, v = .ref D ∧ ChompIs x y a n ∧ led' = (D, tup [.str a ta, .int n tn]) :: led) := by
  have kf : PySem.Challenge.rw_nz0175_01 = PySem.Challenge.rw_nz0175_01 ∧ hd.heap_39 = hd.heap_39 := by k_fill; exact ⟨rfl, rfl⟩
  clear kf
  unfold Does
  intro mean mg mb A env outer A₀ base h₀ L m s Q E hh hA hf hke hdp hu B F X N T hret
  obtain ⟨hdl, dep, frs, gds, un⟩ := A
  dsimp only at hh hA hdp hu
  subst hh hA
  refine wpAny_call ?_
  k_dflt (refine' code_def (binds := [(Str.ofString "text", .str x t), (Str.ofString "ending", .str y u)]) B F X N T rfl hf hke ?k6 ?k7 ?k8 ?k9 ?kB ?_ ?c2 ?c3 ?c4 ?c5; (case k6 => k_is); (case k7 => k_is); (case k8 => (show dep < _; omega)); (case k9 => exact BindsTo.of_eq rfl); (case c5 => decide); (case kB => exact locs rfl); (case c2 => exact rfl); (case c3 => exact rfl); (case c4 => exact rfl); k_whole)
  intro g' L' h' FG' F' N' B' X' T'
  (try dsimp only)
  k_steps
  · exact hret _ _ _ _ ⟨_, _, _, _, _, rfl, chomp_nl (by assumption) (by assumption) (by assumption) (by assumption) (by assumption), rfl⟩ (by assumption) (by assumption)
  · exact hret _ _ _ _ ⟨_, _, _, _, _, rfl, chomp_hit (by assumption) (by assumption) (by assumption), rfl⟩ (by assumption) (by assumption)
  · exact hret _ _ _ _ ⟨_, _, _, _, _, rfl, chomp_miss (by assumption) (by assumption) (by assumption), rfl⟩ (by assumption) (by assumption)
  · exact hret _ _ _ _ ⟨_, _, _, _, _, rfl, chomp_short (by assumption) (by assumption), rfl⟩ (by assumption) (by assumption)
set_option maxRecDepth 100000 in
set_option maxHeartbeats 8000000 in
theorem chompN_does {w : World} {x : Str} {t : Tok} {led : List (Addr × Obj)} (_hx : x.length ≤ 20) :
    Does w 1 88 [.str x t, .none] led (fun v led' => ∃ D ta tn, v = .ref D ∧ led' = (D, tup [.str x ta, .int 0 tn]) :: led) := by
  have kf : PySem.Challenge.rw_nz0175_01 = PySem.Challenge.rw_nz0175_01 ∧ hd.heap_39 = hd.heap_39 := by k_fill; exact ⟨rfl, rfl⟩
  clear kf
  unfold Does
  intro mean mg mb A env outer A₀ base h₀ L m s Q E hh hA hf hke hdp hu B F X N T hret
  obtain ⟨hdl, dep, frs, gds, un⟩ := A
  dsimp only at hh hA hdp hu
  subst hh hA
  refine wpAny_call ?_
  k_dflt (refine' code_def (binds := [(Str.ofString "text", .str x t), (Str.ofString "ending", .none)]) B F X N T rfl hf hke ?k6 ?k7 ?k8 ?k9 ?kB ?_ ?c2 ?c3 ?c4 ?c5; (case k6 => k_is); (case k7 => k_is); (case k8 => (show dep < _; omega)); (case k9 => exact BindsTo.of_eq rfl); (case c5 => decide); (case kB => exact locs rfl); (case c2 => exact rfl); (case c3 => exact rfl); (case c4 => exact rfl); k_whole)
  intro g' L' h' FG' F' N' B' X' T'
  (try dsimp only)
  k_steps
  exact hret _ _ _ _ ⟨_, _, _, rfl, rfl⟩ (by assumption) (by assumption)
end Mine
end
section
open PySem PySem.W PyProof.Rows PySem.Calls PyProof.V PySem.Spec
set_option Elab.async false
namespace Mine
set_option pp.deepTerms false
set_option pp.maxSteps 3000

theorem made_off {h : Heap} {news : List (Addr × Obj)} {D : Addr} {items : Array Value} (x : NewPlain h news D items) : ∀ p ∈ news, p.1 ≠ D := x.2
theorem carried_signs {ys : List Value} {x : Str} (h : CarriedAll ys (List.map PyData.str (List.filter (fun _ => true) (signs x)))) : StrsAre ys ((codesOf x).map ch) := by
  rw [List.filter_eq_self.mpr (by simp)] at h
  exact StrsAre.ofCarried h
section
local macro_rules | `(tactic| walk_at "execs cons") => `(tactic| refine hold ?_)
local macro_rules | `(tactic| walk_at "call builtin:len") => `(tactic| ((with_reducible show wpAny _ _ (call (Value.builtin _) [Value.ref _]) _ _ _); refine hold ?_))
local macro_rules | `(tactic| walk_at "call builtin:str.join") => `(tactic| refine hold ?_)
local macro_rules | `(tactic| walk_at "compareOp NotEq ref ref") => `(tactic| refine hold ?_)
local macro_rules | `(tactic| walk_at "compareOp Eq ref ref") => `(tactic| refine hold ?_)
local macro_rules | `(tactic| walk_at "subscriptTail Name UnaryOp ref int") => `(tactic| refine hold ?_)
local macro_rules | `(tactic| walk_at "subscriptTail Name Slice ref ref") => `(tactic| refine hold ?_)
local macro_rules | `(tactic| walk_at "call builtin:list.pop") => `(tactic| refine hold ?_)
set_option maxRecDepth 100000 in
set_option maxHeartbeats 8000000 in
theorem lch_does {w : World} {x y : Str} {t u : Tok} {led : List (Addr × Obj)} (hx : x.length ≤ 20) (hy : y.length ≤ 20) (lx : Low x) (ly : Low y) :
    Does w 2 148 [.str x t, .str y u] led (fun v led' => ∃ D a n ta tn, v = .ref D ∧ ChompIs x y a n ∧ led' = (D, tup [.str a ta, .int n tn]) :: led) := by
  have kf : PySem.Challenge.rw_nz0175_01 = PySem.Challenge.rw_nz0175_01 ∧ hd.heap_39 = hd.heap_39 := by k_fill; exact ⟨rfl, rfl⟩
  clear kf
  unfold Does
  intro mean mg mb A env outer A₀ base h₀ L m s Q E hh hA hf hke hdp hu B F X N T hret
  obtain ⟨hdl, dep, frs, gds, un⟩ := A
  dsimp only at hh hA hdp hu
  subst hh hA
  refine wpAny_call ?_
  k_dflt (refine' code_def (binds := [(Str.ofString "word", .str x t), (Str.ofString "ending", .str y u)]) B F X N T rfl hf hke ?k6 ?k7 ?k8 ?k9 ?kB ?_ ?c2 ?c3 ?c4 ?c5; (case k6 => k_is); (case k7 => k_is); (case k8 => (show dep < _; omega)); (case k9 => exact BindsTo.of_eq rfl); (case c5 => decide); (case kB => exact locs rfl); (case c2 => exact rfl); (case c3 => exact rfl); (case c4 => exact rfl); k_whole)
  intro g' L' h' FG' F' N' B' X' T'
  (try dsimp only)
  refine wpAny_execs_cons ?_
  k_steps
  unfold Hold
  refine wpAny_execs_cons ?_
  k_steps
  unfold Hold
  dsimp only
  rename List Value => ys0
  rename Heap => hh0
  rename NewPlain _ _ _ _ => np
  rename CarriedAll _ _ => hc
  rename Fr g' L' _ _ => F1
  rename News g' L' _ _ => N1
  rename g'.get? _ = none => hn
  obtain ⟨nX, N2⟩ := made_enters np F1 N1 hn
  have offD := made_off np
  have hS := carried_signs hc
  clear hc np N1 hn
  have hxl : (codesOf x).length ≤ 20 := by rw [len_codes]; exact hx
  rename_i D0 tk0 hl0
  refine wpAny_execs_cons ?_
  refine wpAny_mono (Q := Sealed fun f s' => f = .next ∧ ∃ h₂ tk₂ D us n, s' = { s with heap := h₂, toks := tk₂ } ∧
    Fr g' L' h₂ (fun q => if q = Str.ofString "signs" then some (Value.ref D) else List.lookup q [(Str.ofString "word", Value.str x t), (Str.ofString "ending", Value.str y u)].reverse) ∧
    News g' L' h₂ ((D, listOf us.toArray n) :: led) ∧ StrsAre us ((chompL (codesOf x) (codesOf y)).map ch)) ?_ ?_ (fun _ _ e => e)
  · k_steps
    · rename (y == Str.ofString "") = true => hy0
      unfold Hold
      refine wpAny_execs_cons ?_
      refine While_inv (fun k m₁ news₁ => ∃ l us n, m₁ = (fun q => if q = Str.ofString "signs" then some (Value.ref D0) else List.lookup q [(Str.ofString "word", Value.str x t), (Str.ofString "ending", Value.str y u)].reverse) ∧
        news₁ = (D0, listOf us.toArray n) :: led ∧ StrsAre us (l.map ch) ∧ dropNl l = dropNl (codesOf x) ∧ (∀ c ∈ l, c < 128) ∧ l.length ≤ 20 ∧ l.length = k) F1 N2 ⟨codesOf x, ys0, nX, rfl, rfl, hS, rfl, lx, by rw [len_codes]; exact hx, rfl⟩ ?_
      rintro k m₁ news₁ h₁ tk₁ F₁ N₁ ⟨l, us, n, rfl, rfl, hus, hdl, hlow, hl20, rfl⟩
      rcases nil_or_snoc l with rfl | ⟨r, c, rfl⟩
      · k_steps
        unfold Hold
        refine ne_strs (ys := []) (News.isList (by k_asm) (.tail _ (.head _))) (News.isList (by k_asm) (.head _)) hus .nil (low_chs hlow) (by simp) (by show un + 3 + 64 < _; omega) ?_
        simp only [List.map_nil, decide_true, Bool.not_true]
        k_steps
        exact ⟨rfl, _, _, D0, us, n, rfl, by assumption, subN (by assumption) fun p hp => skip0 hp, by rw [chompL_nl hy0, ← hdl]; exact hus⟩
      · k_steps
        unfold Hold
        refine ne_strs (ys := []) (News.isList (by k_asm) (.tail _ (.head _))) (News.isList (by k_asm) (.head _)) hus .nil (low_chs hlow) (by simp) (by show un + 3 + 64 < _; omega) ?_
        rw [decide_eq_false (by simp), Bool.not_false]
        k_steps
        unfold Hold
        refine last_strs (x := ch c) (News.isList (by k_asm) (.tail _ (.head _))) hus (by simp) ?_
        intro tc
        k_steps
        · rename (ch c == Str.ofString "
") = true => hc
          unfold Hold
          refine wpAny_execs_cons ?_
          k_steps
          unfold Hold
          rename News g' L' _ _ => N5
          refine pop_strs (by k_asm) (subN N5 fun p hp => skip0 hp) (Upd.head offD) hus (by simp) (by rw [sizeLine_eq]; simp at hl20 ⊢; omega) ?_
          intro v5 h5 F5 N6 hus5
          have hc10 := nl_eq hc
          subst hc10
          k_steps
          exact WhileStep.intro (by assumption) (by assumption) (n' := r.length) (by simp) ⟨r, us.dropLast, n + 1, rfl, rfl, by simpa using hus5, by rw [← hdl, dropNl_ten], fun c hc => hlow c (List.mem_append_left _ hc), by simp at hl20; omega, rfl⟩
        · rename (ch c == Str.ofString "
") = false => hc
          exact ⟨rfl, _, _, D0, us, n, rfl, by assumption, subN (by assumption) fun p hp => skip0 hp, by rw [chompL_nl hy0, ← hdl, dropNl_stop (nl_ne hc)]; exact hus⟩
    · rename (y == Str.ofString "") = false => hy0
      unfold Hold
      refine wpAny_execs_cons ?_
      k_steps
      unfold Hold
      rename News g' L' _ _ => N4
      rename NewPlain _ _ _ _ => np2
      rename CarriedAll _ _ => hc2
      rename Fr g' L' _ _ => F4
      rename g'.get? _ = none => hn2
      obtain ⟨n2, N5⟩ := made_enters np2 F4 N4 hn2
      have offD2 := made_off np2
      have hS2 := carried_signs hc2
      clear hc2 np2 hn2 N4
      refine len_strs (News.isList (by exact N5) (.tail _ (.head _))) hS (by rw [List.length_map]; omega) ?_
      k_steps
      unfold Hold
      refine slice_strs (by k_asm) (by k_asm) (News.isList (by k_asm) (.tail _ (.head _))) hS (IsPart.int _ _) IsPart.none (by rw [sizeLine_eq, List.length_map]; omega) ?_
      intro D3 us3 h3 F3 N6 l3 hS3
      k_steps
      unfold Hold
      refine eq_strs (News.isList (by k_asm) (.tail _ (.head _))) (News.isList (by k_asm) (.head _)) hS2 hS3 (low_chs ly) (fun z hz => low_chs lx z (List.mem_of_mem_drop (List.mem_of_mem_take hz))) (by show un + 3 + 64 < _; omega) ?_
      rw [← len_codes y]
      k_steps
      · rename List.map ch (codesOf y) = _ => heq
        unfold Hold
        refine len_strs (News.isList (by exact N6) (.tail _ (.tail _ (.head _)))) hS (by rw [List.length_map]; omega) ?_
        k_steps
        · rename (y.length : Int) ≤ _ => hle
          rw [List.length_map, ← len_codes y] at hle
          have hle' : (codesOf y).length ≤ (codesOf x).length := by omega
          rw [elif_slice hle', map_ch_inj] at heq
          unfold Hold
          refine wpAny_execs_cons ?_
          k_steps
          unfold Hold
          refine len_strs (News.isList (by exact N6) (.tail _ (.tail _ (.head _)))) hS (by rw [List.length_map]; omega) ?_
          k_steps
          unfold Hold
          refine slice_strs (by k_asm) (by exact N6) (News.isList (by exact N6) (.tail _ (.tail _ (.head _)))) hS IsPart.none (IsPart.int _ _) (by rw [sizeLine_eq, List.length_map]; omega) ?_
          intro D5 us5 h5 F5 N7 l5 hS5
          rw [← len_codes y, elif_cut hle'] at hS5
          k_steps
          rename Fr g' L' _ _ => F9
          rename News g' L' _ _ => N9
          exact ⟨rfl, _, _, D5, us5, 0, rfl, fr_twice F9, subN N9 fun p hp => skip1 (skip1 (skip1 hp)), by rw [chompL_hit (ne_nil hy0) ⟨hle', heq.symm⟩]; exact hS5⟩
        · rename ¬ (y.length : Int) ≤ _ => hle
          rw [List.length_map, ← len_codes y] at hle
          exact ⟨rfl, _, _, D0, ys0, nX, rfl, F3, subN N6 fun p hp => skip0 (skip0 hp), by rw [chompL_miss (ne_nil hy0) (by omega)]; exact hS⟩
      · rename ¬ (List.map ch (codesOf y) = _) => heq
        exact ⟨rfl, _, _, D0, ys0, nX, rfl, F3, subN N6 fun p hp => skip0 (skip0 hp), by
          rw [chompL_miss (ne_nil hy0) (fun z => heq (by rw [elif_slice z.1, z.2]))]; exact hS⟩
  · rintro f s' ⟨rfl, h₂, tk₂, D, us, n, rfl, F3, N3, hS3⟩
    dsimp only
    refine wpAny_execs_cons ?_
    k_steps
    unfold Hold
    have hcl : (chompL (codesOf x) (codesOf y)).length ≤ x.length := chompL_len x y
    have hsum : (((chompL (codesOf x) (codesOf y)).map ch).map (·.length)).sum = (chompL (codesOf x) (codesOf y)).length := sum_chs _
    refine join_listW (News.isList (by assumption) (.head _)) hS3 (by decide) (by rw [hsum]; simp; omega) ?_
    intro t6 k6
    dsimp only
    k_steps
    unfold Hold
    refine len_strs (News.isList (by assumption) (.head _)) hS3 (by simp; omega) ?_
    dsimp only
    k_steps
    rename News h₀ L _ _ => kN
    exact hret _ _ _ _ ⟨_, _, _, _, _, rfl, ⟨join_chs _, by rw [List.length_map]⟩, rfl⟩ (by assumption) (subN kN fun p hp => skip1 hp)
end
set_option maxRecDepth 100000 in
set_option maxHeartbeats 8000000 in
theorem lchN_does {w : World} {x : Str} {t : Tok} {led : List (Addr × Obj)} (_hx : x.length ≤ 20) :
    Does w 1 148 [.str x t, .none] led (fun v led' => ∃ D ta tn, v = .ref D ∧ led' = (D, tup [.str x ta, .int 0 tn]) :: led) := by
  have kf : PySem.Challenge.rw_nz0175_01 = PySem.Challenge.rw_nz0175_01 ∧ hd.heap_39 = hd.heap_39 := by k_fill; exact ⟨rfl, rfl⟩
  clear kf
  unfold Does
  intro mean mg mb A env outer A₀ base h₀ L m s Q E hh hA hf hke hdp hu B F X N T hret
  obtain ⟨hdl, dep, frs, gds, un⟩ := A
  dsimp only at hh hA hdp hu
  subst hh hA
  refine wpAny_call ?_
  k_dflt (refine' code_def (binds := [(Str.ofString "word", .str x t), (Str.ofString "ending", .none)]) B F X N T rfl hf hke ?k6 ?k7 ?k8 ?k9 ?kB ?_ ?c2 ?c3 ?c4 ?c5; (case k6 => k_is); (case k7 => k_is); (case k8 => (show dep < _; omega)); (case k9 => exact BindsTo.of_eq rfl); (case c5 => decide); (case kB => exact locs rfl); (case c2 => exact rfl); (case c3 => exact rfl); (case c4 => exact rfl); k_whole)
  intro g' L' h' FG' F' N' B' X' T'
  (try dsimp only)
  k_steps
  exact hret _ _ _ _ ⟨_, _, _, rfl, rfl⟩ (by assumption) (by assumption)
end Mine
end
section
open PySem PySem.W PyProof.Rows PySem.Calls PyProof.V PySem.Spec Builtin
set_option Elab.async false
namespace Mine
set_option pp.deepTerms false
set_option pp.maxSteps 3000
abbrev excObj (C a0 : Addr) (d : Option Addr) : Obj := { cls := .ref C, dict := d, data := .fields #[.ref a0, .none, .none, .none, .bool false, .none] }

/-- what is looked up of the class Die -/
structure DieFacts (M : Model) (h : Heap) : Prop where
  obj : ∃ oc od cd sl, h.get? 51 = some ⟨oc, od, .cls cd, sl⟩ ∧ cd.hasDel = false ∧ cd.mro.isEmpty = false
  made : Looks M h (Bind.madeBy (.ref 51)) (some "Exception.__new__")
  base : Looks M h (Bind.staticBase (.ref 51)) (.ref 51)
  self : Looks M h (isSubtype (.ref 51) (.ref 51)) true
  exc : Looks M h (isSubtype (.ref 51) (.type "Exception")) true
  bexc : Looks M h (isSubtype (.ref 51) (.type "BaseException")) true
  noA : Looks M h (isSubtype (.ref 51) (.type "AttributeError")) false
  noN : Looks M h (isSubtype (.ref 51) (.type "NameError")) false
  call : Looks M h (specialOf (.ref 51) "__call__") (some (.builtin "type.__call__"))
  typ : Looks M h (isInstance (.ref 51) (.type "type")) true
  init : Looks M h (typeLookup (.ref 51) "__init__") (some (.ref 48))
  bind : ∀ self, Looks M h (bindSpecial (.ref 48) self) (.ref 48, [self])

set_option maxRecDepth 100000 in
set_option maxHeartbeats 8000000 in
theorem dieFacts {w : World} {M : Model} {h : Heap} (X : (hd.heap_39 w.params).In h) : DieFacts M h := by
  have kf : PySem.Challenge.rw_nz0175_01 = PySem.Challenge.rw_nz0175_01 ∧ hd.heap_39 = hd.heap_39 := by k_fill; exact ⟨rfl, rfl⟩
  clear kf
  have hc : ∃ oc od cd sl, (hd.heap_39 w.params).lookup 51 = some ⟨oc, od, .cls cd, sl⟩ ∧ cd.hasDel = false ∧ cd.mro.isEmpty = false ∧ (sl.toList[4]?).join = some (.builtin "Exception.__new__") := ⟨_, _, _, _, by k_is, rfl, rfl, rfl⟩
  obtain ⟨oc, od, cd, sl, ho, hdel, hm0, hs4⟩ := hc
  have hcls : clsIn (hd.heap_39 w.params) 51 = some cd := by unfold clsIn; rw [ho]
  have hm : Looks M h (mroOf (.ref 51)) cd.mro := (looks_clsIn X hcls).andThen .now
  obtain ⟨c, l, hl⟩ : ∃ c l, cd.mro = c :: l := by cases q : cd.mro with | nil => rw [q] at hm0; cases hm0 | cons c l => exact ⟨c, l, rfl⟩
  have made : Looks M h (Bind.madeBy (.ref 51)) (some "Exception.__new__") := by
    intro A Q E s k q
    unfold Bind.madeBy
    refine wpAny_bind (hm A _ E s k ?_)
    rw [hl, List.forIn_cons]
    refine wpAny_bind (wpAny_bind (wpAny_bind (wpAny_bind (wpAny_loadPart (k _ _ (X _ _ ho)) (wpAny_pure ?_)))))
    dsimp only
    rw [← Array.getElem?_toList, hs4]
    exact wpAny_pure (wpAny_pure (wpAny_pure q))
  refine ⟨⟨oc, od, cd, sl, X _ _ ho, hdel, hm0⟩, made, ?_, looks_subIn X (by k_is), looks_subIn X (by k_is), looks_subIn X (by k_is), looks_subIn X (by k_is), looks_subIn X (by k_is), looks_specialIn X (by k_is), looks_instIn X (by k_is), looks_findIn X (by k_is), fun self => bind_fn X self (by k_is)⟩
  · intro A Q E s k q
    unfold Bind.staticBase
    refine wpAny_bind (hm A _ E s k ?_)
    rw [hl, List.forIn_cons]
    exact wpAny_bind (wpAny_bind (wpAny_bind (made A _ E s k (wpAny_pure (wpAny_pure (wpAny_pure q))))))

section
variable {prog : Program} {w : World} {A : Around} {R : Result → Shared → Prop} {h : Heap} {g : Array GenState} {d : Drawn} {t : Nat} {os : OsState}
set_option maxRecDepth 100000 in
set_option maxHeartbeats 8000000 in
theorem die_new {v : Value} (Y : DieFacts (model prog w) h)
    (hq : R (.ok (.ret (.ref (h.objs.size + 1)))) ⟨(h.push { cls := .type "tuple", data := .seq #[v] }).push (excObj 51 h.objs.size none), g, d, t, os⟩) :
    codeAny (model prog w) A (.call (.builtin "Exception.__new__") ⟨[.ref 51, v], []⟩) R ⟨h, g, d, t, os⟩ := by
  obtain ⟨⟨oc, od, cd, sl, hC, e1, e2⟩, made, base, self, exc, bexc, noA, noN, call, typ, init, bind⟩ := Y
  have F := PySem.F.excBase_Exception
  have hends := F.ends
  refine codeAny_call_builtin_code (Code.quiet_builtin _ F.quiet) ?_
  have here : Looks (model prog w) h (Bind.madeHere "Exception.__new__" (.ref 51)) () := base.andThen (made.andThen (Looks.of_pure (by simp only [Option.map_some, bne_self_eq_false, Bool.false_eq_true, if_false])))
  have hereB : Looks (model prog w) h (Bind.madeHere "BaseException.__new__" (.ref 51)) () := base.andThen (made.andThen (Looks.of_pure (by simp only [Option.map_some, F.canon, bne_self_eq_false, Bool.false_eq_true, if_false])))
  simp only [checkBuiltinCall, F.newKind, F.newSplit, F.newRow]
  repeat (first | simp only [bne_self_eq_false, Bool.false_eq_true, if_false] | lk)
  refine PySem.codeAny_builtinAt F.entry ?_
  unfold Builtin.«BaseException.__new__»
  refine PySem.wpAt_bind ?_
  show PySem.wpAt _ _ _ (stack >>= _) _ _ _
  refine PySem.wpAt_bind (PySem.wpAt_stack fun p below => PySem.wpAt_of_wpAny ?_)
  wp_walk
  refine PySem.wpAt_of_wpAny ?_
  rw [F.owner]
  repeat (first | simp only [bne_self_eq_false, Bool.false_eq_true, if_false] | lk)
  refine nd_load (Heap.get?_push_of_some _ (Heap.get?_push_of_some _ hC)) ?_
  refine wpAny_pure ?_
  show wpAny _ _ (pure cd.hasDel) _ _ _
  rw [e1]
  refine wpAny_pure ?_
  simp only [Bool.false_eq_true, if_false]
  refine wpAny_pure (wpAny_pure ?_)
  show R _ _
  rw [Heap.size_push]
  exact hq

set_option maxRecDepth 100000 in
set_option maxHeartbeats 8000000 in
theorem die_core {v : Value} (Y : DieFacts (model prog w) h)
    (hq : codeAny (model prog w) (A.under (.builtin "type.__call__" ⟨[.ref 51, v], []⟩)) (.call (.ref 48) ⟨[.ref (h.objs.size + 1), v], []⟩) (InitBack (h.objs.size + 1) R) ⟨(h.push { cls := .type "tuple", data := .seq #[v] }).push (excObj 51 h.objs.size none), g, d, t, os⟩) :
    codeAny (model prog w) A (.call (.ref 51) ⟨[v], []⟩) R ⟨h, g, d, t, os⟩ := by
  have Y' := Y
  obtain ⟨⟨oc, od, cd, sl, hC, e1, e2⟩, made, base, self, exc, bexc, noA, noN, call, typ, init, bind⟩ := Y
  refine codeAny_of_tree ?_
  show wpAny _ _ (callAny (.ref 51) _) _ _ _
  refine nd_load hC ?_
  show wpAny _ _ (callAny.viaDunder (.ref 51) _) _ _ _
  unfold callAny.viaDunder
  refine wpAny_bind (call.at ?_)
  dsimp only
  rw [tc_bind]
  refine wpAny_bind (wpAny_pure (wpAny_bind (wpAny_pure ?_)))
  refine wpAny_pure (a := Fin.again (.call (.builtin "type.__call__") ⟨[.ref 51, v], []⟩)) (And.intro rfl ?_)
  refine codeAny_call_builtin_at (Code.quiet_builtin _ (by decide +kernel)) entry_typeCall (check_slot tc_kind tc_split typ (tc_args _ _ _) ?_)
  unfold Builtin.«type.__call__»
  have hm : Looks (model prog w) h (mroOf (.ref 51)) cd.mro := ((Looks.ld (part := none) hC).andThen .now).andThen .now
  repeat (first | simp only [e2, Bool.false_eq_true, if_false] | with_reducible refine wpAny_call ?_ | lk)
  refine die_new Y' ?_
  have k : ∀ b o, h.get? b = some o → ((h.push { cls := .type "tuple", data := .seq #[v] }).push (excObj 51 h.objs.size none)).get? b = some o := fun b o e => Heap.get?_push_of_some _ (Heap.get?_push_of_some _ e)
  have hx : ((h.push { cls := .type "tuple", data := .seq #[v] }).push (excObj 51 h.objs.size none)).get? (h.objs.size + 1) = some (excObj 51 h.objs.size none) := by heap_get
  have t1 : Looks (model prog w) ((h.push { cls := .type "tuple", data := .seq #[v] }).push (excObj 51 h.objs.size none)) (typeOf (.ref (h.objs.size + 1))) (.ref 51) := (Looks.ld hx).andThen .now
  have s1 := self.keeps k
  have i1 := init.keeps k
  have b1 := (bind (.ref (h.objs.size + 1))).keeps k
  unfold isInstance callSpecial? specialOf
  repeat (first | with_reducible refine wpAny_call ?_ | lk)
  refine codeAny_mono hq fun r s' z => ?_
  rcases r with e | (v | _ | _ | _) <;> first | exact z | exact z.elim | skip
  obtain ⟨rfl, z⟩ := z
  exact wpAny_pure (wpAny_pure z)
end

theorem die_make {prog : Program} {w : World} {A : Around} {R : Result → Shared → Prop} {s : Shared} {h₀ : Heap} {L : Addr} {m : Str → Option Value} {news : List (Addr × Obj)} {v : Value} (F : Fr h₀ L s.heap m) (N : News h₀ L s.heap news) (X : (hd.heap_39 w.params).In h₀)
    (h : ∀ e a0 h', Fr h₀ L h' m → News h₀ L h' ((e, excObj 51 a0 none) :: (a0, tup [v]) :: news) → (∀ p ∈ news, p.1 < a0) → a0 < e →
      codeAny (model prog w) (A.under (.builtin "type.__call__" ⟨[.ref 51, v], []⟩)) (.call (.ref 48) ⟨[.ref e, v], []⟩) (InitBack e R) { s with heap := h' }) :
    codeAny (model prog w) A (.call (.ref 51) ⟨[v], []⟩) R s := by
  obtain ⟨hh, g, d, t, os⟩ := s
  refine die_core (dieFacts (X.keeps F.keep)) (h _ hh.objs.size _ ((F.push _).push _) ?_ (fun p hp => Heap.lt_size (N p hp).1) (Nat.lt_succ_self _))
  have := (N.push F (tup [v])).push (F.push _) (excObj 51 hh.objs.size none)
  rwa [Heap.size_push] at this
end Mine
end
section
open PySem PySem.W PyProof.Rows PySem.Calls PyProof.V PySem.Spec Builtin Builtin.ObjectAttr
set_option Elab.async false
namespace Mine
set_option pp.deepTerms false
set_option pp.maxSteps 3000

theorem die_refuse (self : Value) : refuseLoop self "__setattr__" [.ref 51, .ref 31, .type "Exception", .type "BaseException", .type "object"] = pure () := by
  rw [refuseLoop_ref, refuseLoop_ref]
  kernel_rfl

/-- the takers of Die's names and its line of classes -/
structure DieStore (M : Model) (K : Frag) (h : Heap) (name : Str) : Prop where
  mro : Looks M h (mroOf (.ref 51)) [.ref 51, .ref 31, .type "Exception", .type "BaseException", .type "object"]
  obj : Looks M h (isSubtype (.ref 51) (.type "object")) true
  set : Looks M h (typeLookup (.ref 51) "__setattr__") (some (.builtin "object.__setattr__"))
  look : Looks M h (typeLookup (.ref 51) name) none
  cls : ∃ cd, Looks M h (classData 51) cd ∧ cd.hasDict = true

set_option maxRecDepth 100000 in
set_option maxHeartbeats 8000000 in
theorem dieStore_text {w : World} {M : Model} {h : Heap} (X : (hd.heap_39 w.params).In h) : DieStore M (hd.heap_39 w.params) h (Str.ofString "text") := by
  have kf : PySem.Challenge.rw_nz0175_01 = PySem.Challenge.rw_nz0175_01 ∧ hd.heap_39 = hd.heap_39 := by k_fill; exact ⟨rfl, rfl⟩
  clear kf
  have hc : ∃ cd, clsIn (hd.heap_39 w.params) 51 = some cd ∧ cd.mro = [.ref 51, .ref 31, .type "Exception", .type "BaseException", .type "object"] ∧ cd.hasDict = true := ⟨_, by k_is, rfl, rfl⟩
  obtain ⟨cd, hcls, hm, hdct⟩ := hc
  refine ⟨?_, looks_subIn X (by k_is), looks_findIn X (by k_is), looks_findIn X (by k_is), cd, looks_clsIn X hcls, hdct⟩
  rw [← hm]
  exact (looks_clsIn X hcls).andThen .now
set_option maxRecDepth 100000 in
set_option maxHeartbeats 8000000 in
theorem dieStore_value {w : World} {M : Model} {h : Heap} (X : (hd.heap_39 w.params).In h) : DieStore M (hd.heap_39 w.params) h (Str.ofString "value") := by
  have kf : PySem.Challenge.rw_nz0175_01 = PySem.Challenge.rw_nz0175_01 ∧ hd.heap_39 = hd.heap_39 := by k_fill; exact ⟨rfl, rfl⟩
  clear kf
  have hc : ∃ cd, clsIn (hd.heap_39 w.params) 51 = some cd ∧ cd.mro = [.ref 51, .ref 31, .type "Exception", .type "BaseException", .type "object"] ∧ cd.hasDict = true := ⟨_, by k_is, rfl, rfl⟩
  obtain ⟨cd, hcls, hm, hdct⟩ := hc
  refine ⟨?_, looks_subIn X (by k_is), looks_findIn X (by k_is), looks_findIn X (by k_is), cd, looks_clsIn X hcls, hdct⟩
  rw [← hm]
  exact (looks_clsIn X hcls).andThen .now

section
variable {prog : Program} {w : World} {A : Around} {E : Value → Shared → Prop} {s : Shared} {h₀ : Heap} {L : Addr} {m : Str → Option Value} {rest : List (Addr × Obj)} {K : Frag} {e a0 : Addr} {name : Str} {v : Value}

theorem die_set {dd : Option Addr} {Q : Unit → Shared → Prop} (Y : DieStore (model prog w) K s.heap name) (hx : s.heap.get? e = some (excObj 51 a0 dd))
    (h : ∀ A' b, wpAny (model prog w) A' (storeInOwnDict (.ref e) (.ref 51) (.str name s.toks) name v b) (fun fin s' => fin = .done (.ret .none) ∧ Q () s') E { s with toks := s.toks + 1 }) :
    wpAny (model prog w) A (setAttr (.ref e) name v) Q E s := by
  obtain ⟨hh, g, d, t, os⟩ := s
  obtain ⟨mro, obj, set, look, cd, hcd, hdct⟩ := Y
  dsimp only at hx mro obj set look hcd h
  have ty : Looks (model prog w) hh (typeOf (.ref e)) (.ref 51) := (Looks.ld hx).andThen .now
  have inst : Looks (model prog w) hh (isInstance (.ref e) (.type "object")) true := ty.andThen obj
  refine wpAny_bind (wpAny_mkText (wpAny_bind (wpAny_bind (wpAny_bind (ty.at (set.at (wpAny_holding ?_)))))))
  rw [PySem.F.store_object.slot.bind]
  refine wpAny_bind (wpAny_pure (wpAny_bind (wpAny_call ?_)))
  have SF := PySem.F.store_object
  refine codeAny_call_builtin SF.slot.plain SF.entry (@check_slot (model prog w) _ _ _ "object.__setattr__" "object" "__setattr__" (.ref e) [.str name t, v] [] _ SF.kind SF.split inst (SF.args (.ref e) (.str name t) v) ?_)
  show wpAny _ _ (Builtin.«object.__setattr__» ⟨[.ref e, .str name t, v], []⟩) _ _ _
  rw [osa_eq, refuse_eq]
  refine wpAny_bind (wpAny_bind (ty.at (wpAny_bind (mro.at ?_))))
  rw [die_refuse]
  refine wpAny_pure (wpAny_bind (ty.at (wpAny_bind (look.at (wpAny_bind (wpAny_pure ?_))))))
  refine wpAny_mono (h _ _) (fun fin s' z => ?_) fun _ _ z => z
  obtain ⟨rfl, z⟩ := z
  exact wpAny_pure (wpAny_pure z)

theorem store_dict {A' : Around} {es : List DictEntry} {n : Nat} {dx : Addr} {tk : Tok} {pre post : List (Addr × Obj)} {Q : Fin → Shared → Prop} (F : Fr h₀ L s.heap m) (N : News h₀ L s.heap (pre ++ (dx, dictOf es n) :: post))
    (h1 : ∀ p ∈ pre, p.1 ≠ dx) (h2 : ∀ p ∈ post, p.1 ≠ dx) (hr : es.any (·.refKey) = false) (hz : es.length ≤ 100)
    (h : ∀ h' tk', Fr h₀ L h' m → News h₀ L h' (pre ++ (dx, dictOf (putL name (PyData.keyHash w.params name) (.str name s.toks) v es) (putN name es n)) :: post) → Q (.done (.ret .none)) { s with heap := h', toks := tk' }) :
    wpAny (model prog w) A' (storeInDict dx (.str name tk) name v) Q E s := by
  have D := N (dx, dictOf es n) (List.mem_append_right _ (.head _))
  obtain ⟨U1, U2⟩ := news_upd (f := Obj.putName name (PyData.keyHash w.params name) (.str name s.toks) v) F N h1 h2 (putName_dict ..) rfl
  have D' := U2 _ (List.mem_append_right _ (.head _))
  unfold storeInDict newKeyGuard
  refine wpAny_bind (wpAny_pure (wpAny_bind ?_))
  unfold nsSet
  refine wpAny_bind (wpAny_bind (wpAny_askSetting (wpAny_pure (wpAny_bind (wpAny_mkText (wpAny_bind (wpAny_loadPart D.1 ?_)))))))
  dsimp only
  have c : (!es.toArray.any (·.key.isStr name) && es.toArray.any (·.refKey)) = false := by
    rw [List.any_toArray, List.any_toArray, hr, Bool.and_false]
  rw [aRefKeyMayBeTheName_at, c]
  refine wpAny_updatePart D.1 ?_
  have hl : (putL name (PyData.keyHash w.params name) (.str name s.toks) v es).length ≤ es.length + 1 := by
    have key : ∀ l : List DictEntry, (putL name (PyData.keyHash w.params name) (.str name s.toks) v l).length ≤ l.length + 1 := by
      intro l
      induction l with
      | nil => simp [putL]
      | cons x r ih =>
        unfold putL
        split
        · simp
        · simp only [List.length_cons]; omega
    exact key es
  refine wpAny_bind (wpAny_lookBehind D'.1 (pastItsLine_dict (by rw [List.size_toArray, sizeLine_eq]; omega)) ?_)
  exact wpAny_pure (h _ _ U1 U2)

theorem die_set_none {Q : Unit → Shared → Prop} (Y : DieStore (model prog w) K s.heap name) (F : Fr h₀ L s.heap m) (N : News h₀ L s.heap ((e, excObj 51 a0 none) :: rest)) (off : ∀ p ∈ rest, p.1 ≠ e)
    (h : ∀ dx hs tk h' tk', Fr h₀ L h' m → News h₀ L h' ((e, excObj 51 a0 (some dx)) :: (dx, dictOf [⟨hs, .str name tk, v⟩] 1) :: rest) → e < dx → (∀ p ∈ rest, p.1 < dx) → Q () { s with heap := h', toks := tk' }) :
    wpAny (model prog w) A (setAttr (.ref e) name v) Q E s := by
  have Ne := N _ (.head _)
  refine die_set Y Ne.1 fun A' b => ?_
  obtain ⟨hh, g, d, t, os⟩ := s
  obtain ⟨mro, obj, set, look, cd, hcd, hdct⟩ := Y
  dsimp only at *
  unfold storeInOwnDict
  refine wpAny_bind (wpAny_pure (wpAny_bind ?_))
  unfold ownDictForStores instanceDict
  refine wpAny_bind (wpAny_loadPart Ne.1 (wpAny_bind (hcd.at ?_)))
  rw [hdct]
  simp only [Bool.not_true, Bool.false_eq_true, if_false]
  rw [if_neg (by simp [typeHasDict])]
  have F₁ := F.push emptyDict
  have N₁ := N.push F emptyDict
  have he : e < hh.objs.size := Heap.lt_size Ne.1
  obtain ⟨U1, U2⟩ := news_upd (pre := [(hh.objs.size, emptyDict)]) (o' := excObj 51 a0 (some hh.objs.size)) (f := fun o => { o with dict := some hh.objs.size }) F₁ N₁ (by
    intro p hp
    rw [List.mem_singleton.mp hp]
    exact Nat.ne_of_gt he) off rfl rfl
  refine wpAny_bind (wpAny_alloc (wpAny_bind (wpAny_update (N₁ _ (.tail _ (.head _))).1 ?_)))
  refine wpAny_pure ?_
  dsimp only
  have offr : ∀ p ∈ rest, p.1 < hh.objs.size := fun p hp => Heap.lt_size (N p (.tail _ hp)).1
  refine store_dict (es := []) (n := 0) (pre := []) (by exact U1) (by exact U2) (by intro p hp; cases hp) ?_ rfl (by decide) ?_
  · intro p hp
    rcases List.mem_cons.mp hp with rfl | hp
    · exact Nat.ne_of_lt he
    · exact Nat.ne_of_lt (offr p hp)
  · intro h' tk' F' N'
    exact ⟨rfl, h _ _ _ _ _ F' (subN N' fun p hp => by
      rcases List.mem_cons.mp hp with rfl | hp
      · exact .tail _ (.head _)
      · rcases List.mem_cons.mp hp with rfl | hp
        · exact .head _
        · exact .tail _ (.tail _ hp)) he offr⟩

theorem die_set_some {es : List DictEntry} {n : Nat} {dx : Addr} {Q : Unit → Shared → Prop} (Y : DieStore (model prog w) K s.heap name) (F : Fr h₀ L s.heap m) (N : News h₀ L s.heap ((e, excObj 51 a0 (some dx)) :: (dx, dictOf es n) :: rest)) (hed : e ≠ dx) (off : ∀ p ∈ rest, p.1 ≠ dx)
    (hr : es.any (·.refKey) = false) (hz : es.length ≤ 100)
    (h : ∀ o h' tk', Fr h₀ L h' m → News h₀ L h' ((e, excObj 51 a0 (some dx)) :: (dx, o) :: rest) → Q () { s with heap := h', toks := tk' }) :
    wpAny (model prog w) A (setAttr (.ref e) name v) Q E s := by
  have Ne := N _ (.head _)
  refine die_set Y Ne.1 fun A' b => ?_
  obtain ⟨hh, g, d, t, os⟩ := s
  obtain ⟨mro, obj, set, look, cd, hcd, hdct⟩ := Y
  dsimp only at *
  unfold storeInOwnDict
  refine wpAny_bind (wpAny_pure (wpAny_bind ?_))
  unfold ownDictForStores instanceDict
  refine wpAny_bind (wpAny_loadPart Ne.1 (wpAny_bind (hcd.at ?_)))
  rw [hdct]
  simp only [Bool.not_true, Bool.false_eq_true, if_false]
  refine wpAny_pure ?_
  dsimp only
  refine store_dict (pre := [(e, excObj 51 a0 (some dx))]) (by exact F) (by exact N) ?_ off hr hz ?_
  · intro p hp
    rw [List.mem_singleton.mp hp]
    exact hed
  · intro h' tk' F' N'
    exact ⟨rfl, h _ _ _ F' N'⟩
end
end Mine
end
section
open PySem PySem.W PyProof.Rows PySem.Calls PyProof.V PySem.Spec Builtin Builtin.ObjectAttr
set_option Elab.async false
namespace Mine
set_option pp.deepTerms false
set_option pp.maxSteps 3000
section
variable {prog : Program} {w : World} {A : Around} {E : Value → Shared → Prop} {s : Shared} {h₀ : Heap} {L : Addr} {m : Str → Option Value} {rest : List (Addr × Obj)} {e a0 : Addr} {v : Value}
theorem check_exc_args {M : Model} {Q : Unit → Shared → Prop} {h : Heap} {g : Array GenState} {dr : Drawn} {t : Nat} {os : OsState} {d : Option Addr} {oc : Value} {od : Option Addr} {cd : ClassData} {sl : Array (Option Value)}
    (he : h.get? e = some (excObj 51 a0 d)) (hC : h.get? 51 = some ⟨oc, od, .cls cd, sl⟩) (hshort : ("Exception" != "*") = true) (hq : Q () ⟨h, g, dr, t, os⟩) :
    wpAny M A (Bind.checkArgs "Exception.__init__" ⟨.positional, "*", "Exception", .self, [⟨"args", .varPos, false⟩]⟩ ⟨[.ref e, v], []⟩) Q E ⟨h, g, dr, t, os⟩ := by
  unfold Bind.checkArgs
  repeat (first | lk | wp_step)
  exact hq
set_option maxRecDepth 100000 in
set_option maxHeartbeats 8000000 in
theorem exc_init {d : Option Addr} {Q : Value → Shared → Prop} (Y : DieFacts (model prog w) s.heap) (F : Fr h₀ L s.heap m) (N : News h₀ L s.heap ((e, excObj 51 a0 d) :: rest)) (off : ∀ p ∈ rest, p.1 ≠ e)
    (h : ∀ a1 h' tk', Fr h₀ L h' m → News h₀ L h' ((e, excObj 51 a1 d) :: rest) → Q .none { s with heap := h', toks := tk' }) :
    wpAny (model prog w) A (call (.builtin "Exception.__init__") [.ref e, v]) Q E s := by
  have Ne := N _ (.head _)
  obtain ⟨hh, g, dr, t, os⟩ := s
  obtain ⟨⟨oc, od, cd, sl, hC, e1, e2⟩, made, base, self, exc, bexc, noA, noN, call, typ, init, bind⟩ := Y
  have FF := PySem.F.excBase_Exception
  have hshort := FF.noStar
  dsimp only at *
  have ty : Looks (model prog w) hh (typeOf (.ref e)) (.ref 51) := (Looks.ld Ne.1).andThen .now
  have inst : Looks (model prog w) hh (isInstance (.ref e) (.type "Exception")) true := ty.andThen exc
  refine wpAny_call (codeAny_call_builtin FF.init.plain FF.initEntry ?_)
  simp only [checkBuiltinCall, FF.initKind, FF.initSplit, FF.initRow]
  refine wpAny_bind (inst.at ?_)
  simp only [Bool.not_true, Bool.false_eq_true, if_false]
  refine check_exc_args Ne.1 hC hshort ?_
  unfold Builtin.«BaseException.__init__»
  dsimp only
  have N₁ := N.push F (tup [v])
  have F₁ := F.push (tup [v])
  have he : e < hh.objs.size := Heap.lt_size Ne.1
  obtain ⟨U1, U2⟩ := news_upd (pre := [(hh.objs.size, tup [v])]) (o' := excObj 51 hh.objs.size d) (f := Obj.mapFields (·.setIfInBounds 0 (.ref hh.objs.size))) F₁ N₁ (by
    intro p hp
    rw [List.mem_singleton.mp hp]
    exact Nat.ne_of_gt he) off rfl rfl
  refine wpAny_bind (wpAny_newObj_type ?_ (by show 1 ≤ sizeLine; rw [sizeLine_eq]; omega))
  unfold Builtin.BaseException.bexcPut
  refine wpAny_bind (wpAny_bind (wpAny_field (N₁ _ (.tail _ (.head _))).1 rfl (i := 0) (x := .ref a0) rfl ?_))
  refine wpAny_bind (wpAny_setField (N₁ _ (.tail _ (.head _))).1 rfl (Nat.lt_of_sub_eq_succ rfl) ?_)
  refine wpAny_letGo ?_
  refine wpAny_pure ?_
  exact h hh.objs.size _ _ U1 (subN U2 fun p hp => .tail _ hp)
end
end Mine
end
section
open PySem PySem.W PyProof.Rows PySem.Calls PyProof.V PySem.Spec
set_option Elab.async false
namespace Mine
set_option pp.deepTerms false
set_option pp.maxSteps 3000

theorem meta_Exception : typeOf (.type "Exception") = pure (.type "type") := by kernel_rfl
section
local macro_rules | `(tactic| k_room) => `(tactic| ((try simp only [depth_under_make, depth_under_kw, depth_in1, depth_deeper, depth_caller]); omega))
local macro_rules | `(tactic| walk_at "getMethod type:Exception") => `(tactic| (k_here; refine' method_type ?F ?X ?m (by decide +kernel) ?e ?h ?_; (case F => k_asm); (case X => k_asm); (case m => exact meta_Exception); (case e => k_dflt k_is); (case h => k_handed)))
local macro_rules | `(tactic| walk_at "call builtin:Exception.__init__") => `(tactic| (k_here; (refine exc_init (dieFacts (Frag.In.keeps (by k_asm) (Fr.keep (by k_asm)))) (by k_asm) (by k_asm) (by assumption) ?_); intro a1' h' tk' F' N'; (try k_sweep)))
local macro_rules | `(tactic| walk_at "setAttr ref") => `(tactic| (k_here; first
  | ((with_reducible show wpAny _ _ (setAttr _ (PySem.Str.ofString "text") _) _ _ _); (refine die_set_none (dieStore_text (Frag.In.keeps (by k_asm) (Fr.keep (by k_asm)))) (by k_asm) (by k_asm) (by assumption) ?_); intro dx' hs' tk' h' tk'' F' N' l1' l2'; (try k_sweep))
  | ((with_reducible show wpAny _ _ (setAttr _ (PySem.Str.ofString "value") _) _ _ _); (refine die_set_some (dieStore_value (Frag.In.keeps (by k_asm) (Fr.keep (by k_asm)))) (by k_asm) (by k_asm) (Nat.ne_of_lt (by assumption)) (fun p hp => Nat.ne_of_lt ((by assumption : ∀ p ∈ _, p.1 < _) p hp)) rfl (Nat.le_of_ble_eq_true rfl) ?_); intro o' h' tk' F' N'; (try k_sweep))))
set_option maxRecDepth 100000 in
set_option maxHeartbeats 8000000 in
theorem init_does {w : World} {x : Str} {t : Tok} {e a0 : Addr} {led : List (Addr × Obj)} (off : ∀ p ∈ led, p.1 ≠ e) :
    DoesC w 4 48 [.ref e, .str x t] ((e, excObj 51 a0 none) :: led) (fun v led' => v = .none ∧ ∃ a1 dx, led' = (e, excObj 51 a1 (some dx)) :: led) := by
  have kf : PySem.Challenge.rw_nz0175_01 = PySem.Challenge.rw_nz0175_01 ∧ hd.heap_39 = hd.heap_39 := by k_fill; exact ⟨rfl, rfl⟩
  clear kf
  unfold DoesC
  intro mean mg mb A env outer A₀ base h₀ L m s R hh hA hf hke hdp hu B F X N T hret
  obtain ⟨hdl, dep, frs, gds, un⟩ := A
  dsimp only at hh hA hdp hu
  subst hh hA
  k_dflt (refine' code_def (binds := [(Str.ofString "self", .ref e), (Str.ofString "value", .str x t)]) B F X N T rfl hf hke ?k6 ?k7 ?k8 ?k9 ?kB ?_ ?c2 ?c3 ?c4 ?c5; (case k6 => k_is); (case k7 => k_is); (case k8 => (show dep < _; omega)); (case k9 => exact BindsTo.of_eq rfl); (case c5 => decide); (case kB => exact locs rfl); (case c2 => exact rfl); (case c3 => exact rfl); (case c4 => exact rfl); k_whole)
  intro g' L' h' FG' F' N' B' X' T'
  (try dsimp only)
  k_steps
  rename News h₀ L _ _ => kN
  exact hret _ _ _ _ ⟨rfl, _, _, rfl⟩ (by assumption) (subN kN fun p hp => skip1 hp)
end

theorem die_does {w : World} {x : Str} {t : Tok} {led : List (Addr × Obj)} : Does w 6 51 [.str x t] led (fun v led' => ∃ e a1 dx, v = .ref e ∧ led' = (e, excObj 51 a1 (some dx)) :: led ∧ ∀ p ∈ led, p.1 ≠ e) := by
  intro mean mg mb A env outer A₀ base h₀ L m s Q E hh hA hf hke hdp hu B F X N T hret
  obtain ⟨hdl, dep, frs, gds, un⟩ := A
  dsimp only at hh hA hdp hu
  subst hh hA
  refine wpAny_call (die_make F N X ?_)
  intro e a0 h' F' N' l1 l2
  have off : ∀ p ∈ led, p.1 ≠ e := fun p hp => Nat.ne_of_lt (Nat.lt_trans (l1 p hp) l2)
  refine init_does off mean mg mb _ env outer A₀ base h₀ L m _ _ rfl rfl hf hke ?_ ?_ B F' X (subN N' fun p hp => skip1 hp) T ?_
  · show dep + 1 + 4 < _
    omega
  · have hcu : (Code.builtin "type.__call__" ⟨[.ref 51, .str x t], []⟩).cUnits ≤ 10 := Nat.le_of_ble_eq_true rfl
    show un + (Code.builtin "type.__call__" ⟨[.ref 51, .str x t], []⟩).cUnits + 100 * 4 < _
    omega
  · rintro v led' h'' tk' ⟨rfl, a1, dx, rfl⟩ F'' N''
    exact ⟨rfl, hret _ _ _ _ ⟨e, a1, dx, rfl, rfl, off⟩ F'' N''⟩
end Mine
end
section
open PySem PySem.W PyProof.Rows PySem.Calls PyProof.V PySem.Spec Builtin Builtin.ObjectAttr
set_option Elab.async false
namespace Mine
set_option pp.deepTerms false
set_option pp.maxSteps 3000
set_option maxRecDepth 100000 in
set_option maxHeartbeats 8000000 in
theorem dieType {w : World} {M : Model} {h : Heap} (X : (hd.heap_39 w.params).In h) : Looks M h (typeOf (.ref 51)) (.type "type") := by
  have kf : PySem.Challenge.rw_nz0175_01 = PySem.Challenge.rw_nz0175_01 ∧ hd.heap_39 = hd.heap_39 := by k_fill; exact ⟨rfl, rfl⟩
  clear kf
  exact looks_typeIn X (by k_is)
section
variable {prog : Program} {w : World} {A : Around} {E : Value → Shared → Prop} {s : Shared} {h₀ : Heap} {L : Addr} {m : Str → Option Value} {rest : List (Addr × Obj)} {e a0 : Addr} {v : Value}
set_option maxRecDepth 100000 in
set_option maxHeartbeats 8000000 in
theorem raise_die {env : Env} {x : Expr} {pos : Pos} {Q : Flow → Shared → Prop} (hh : A.handled = none)
    (h : wpAny (model prog w) A (eval x env) (fun v s₁ => ∃ e a1 d, v = .ref e ∧ s₁.heap.get? e = some (excObj 51 a1 d) ∧ (hd.heap_39 w.params).In s₁.heap ∧ E (.ref e) s₁) E s) :
    wpAny (model prog w) A (exec (.Raise (some x) none pos) env) Q E s := by
  show wpAny _ A (do standAt pos; raiseStmt env ((evalOpt (some x) env).map fun x => do let v ← x; standAt pos; pure v) ((evalOpt none env).map fun c => do let v ← c; standAt pos; pure v)) _ _ _
  unfold evalOpt
  refine wpAny_bind (wpAny_standAt ?_)
  unfold raiseStmt
  refine wpAny_bind (wpAny_bind (wpAny_mono h (fun v s₁ h₁ => ?_) fun _ _ x => x))
  obtain ⟨e, a1, d, rfl, he, X, hE⟩ := h₁
  refine wpAny_bind (wpAny_standAt (wpAny_pure ?_))
  obtain ⟨hp, g, dr, tk, os⟩ := s₁
  dsimp only at he X hE ⊢
  obtain ⟨⟨oc, od, cd, sl, hC, e1, e2⟩, made, base, self, exc, bexc, noA, noN, call, typ, init, bind⟩ := dieFacts (M := model prog w) X
  have ty : Looks (model prog w) hp (typeOf (.ref e)) (.ref 51) := (Looks.ld he).andThen .now
  have inst : Looks (model prog w) hp (isInstance (.ref e) (.type "BaseException")) true := ty.andThen bexc
  have tc : Looks (model prog w) hp (typeOf (.ref 51)) (.type "type") := dieType X
  refine wpAny_bind (wpAny_pure (wpAny_bind (wpAny_holding ?_)))
  have isT : Looks (model prog w) hp (isType (.ref e)) false := (Looks.ld he).andThen .now
  unfold excFromValue isExcClass
  refine wpAny_bind (wpAny_bind (isT.at ?_))
  simp only [Bool.false_eq_true, if_false]
  refine wpAny_pure ?_
  simp only [Bool.false_eq_true, if_false]
  refine wpAny_bind (inst.at ?_)
  simp only [if_true]
  refine wpAny_pure ?_
  refine wpAny_bind (isT.at ?_)
  simp only [Bool.false_eq_true, if_false]
  unfold raisedInstance
  refine wpAny_bind (wpAny_bind (ty.at (wpAny_bind (tc.at ?_))))
  rw [if_pos (by rfl)]
  refine wpAny_pure ?_
  unfold setFlight
  refine wpAny_bind (wpAny_bind (wpAny_field he rfl (i := 1) (x := .none) rfl ?_))
  rw [if_neg (by decide)]
  exact wpAny_pure (wpAny_raiseNew_none hh hE)
end
end Mine
end
section
open PySem PySem.W PyProof.Rows PySem.Calls PyProof.V PySem.Spec
set_option Elab.async false
namespace Mine
set_option pp.deepTerms false
set_option pp.maxSteps 3000
section
variable {M : Model} {A : Around} {E : Value → Shared → Prop} {s' : Shared} {base g : Heap} {outer : List Env} {L a e a1 : Addr} {dx : Option Addr} {m : Str → Option Value} {name : Str} {scope : Scope} {cd : Value} {Q : Unit → Shared → Prop} {news : List (Addr × Obj)}
/-- the own exception, made in this frame, leaves it -/
theorem leave_die (K : Below A base outer g) (F : Fr g L s'.heap m) (N : News g L s'.heap ((e, excObj 51 a1 dx) :: news)) (off : ∀ p ∈ news, p.1 ≠ e)
    (hQ : ∀ h', RaisedSN base g outer e (.ref 51) news h' → g.UpToSlots h' → Q () { s' with heap := h' }) (hk : scope.kind = .function := by rfl) :
    wpAny M (A.deeper (envOf name scope L a cd)) (leaving (envOf name scope L a cd) (.ref e)) Q E s' := by
  have K' := K.push (name := name) (a := a) (cd := cd) F hk
  obtain ⟨he, heL, heg⟩ := N _ (.head _)
  dsimp only at he heL heg
  have heb : base.get? e = none := fresh_of_stays K.stays heg
  let fr : List Addr := (envOf name scope L a cd :: outer).filterMap (·.frame)
  have hin : ∀ env ∈ (envOf name scope L a cd :: outer), ∀ b, env.frame = some b → b ∈ fr := fun env he b hb => List.mem_filterMap.mpr ⟨env, he, hb⟩
  have st : base.StaysIn (hideAll s'.heap (e :: fr)) := fun b o q => hideAll_get _ (K'.stays b o q) fun hm => by
    rcases List.mem_cons.mp hm with z | z
    · rw [z, heb] at q; cases q
    · rw [(K'.frames.mem z).1] at q; cases q
  have sg : ∀ b o, g.get? b = some o → b ∉ outer.filterMap (·.frame) → (hideAll s'.heap (e :: fr)).get? b = some o := fun b o q nm => hideAll_get _ (F.keep b o q) fun hm => by
    rcases List.mem_cons.mp hm with z | z
    · rw [z, heg] at q; cases q
    · rcases kts_mem z with z | z
      · rw [z, kts_self F] at q; cases q
      · exact nm z
  have hl : ∀ q ∈ news, (hideAll s'.heap (e :: fr)).get? q.1 = some q.2 ∧ g.get? q.1 = none ∧ base.get? q.1 = none := fun q hq => by
    have Nq := N q (.tail _ hq)
    refine ⟨hideAll_get _ Nq.1 fun hm => ?_, Nq.2.2, fresh_of_stays K.stays Nq.2.2⟩
    rcases List.mem_cons.mp hm with z | z
    · exact off q hq z
    · obtain ⟨env, hen, hf⟩ := List.mem_filterMap.mp z
      rcases List.mem_cons.mp hen with rfl | hen
      · exact Nq.2.1 (Option.some.inj hf).symm
      · obtain ⟨o, ho, _⟩ := (K.frames.mem (List.mem_filterMap.mpr ⟨env, hen, hf⟩)).2
        rw [Nq.2.2] at ho; cases ho
  have hen : (hideAll s'.heap (e :: fr)).get? e = none := hideAll_none _ (.head _)
  refine wpAny_leaving_firstW (a0 := .ref a1) K'.stack (funFrames_hide K'.frames (fun env he b hb => .tail _ (hin env he b hb))) rfl he (fun b o hb => of_hideAll _ hb) hen rfl rfl rfl fun h' hL => ?_
  obtain ⟨k1, ⟨_, _, k2⟩, k3, k4⟩ := hL
  exact hQ h' ⟨_, .ref a1, st, sg, hl, k1, hen, k2, k3⟩ ((Heap.UpToSlots.of_keeps F.keep).trans k4)
end

section
variable {w : World} {A₀ : Around} {E : Value → Shared → Prop} {s' : Shared} {base g G : Heap} {outer : List Env} {L a e : Addr} {m mg mb : Str → Option Value} {mean : ExcName → Option Value} {name : Str} {scope : Scope} {cd : Value}
  {b₀ : Stmt} {suite : List Stmt} {pos np : Pos} {rest : List ExceptHandler} {Q : Flow → Shared → Prop} {news : List (Addr × Obj)}
set_option maxRecDepth 100000 in
set_option maxHeartbeats 8000000 in
/-- the own exception, in flight from a call in this frame's try, met by `except Die:` -/
theorem caught_die (R : RaisedSN base G (envOf name scope L a cd :: outer) e (.ref 51) news s'.heap) (F : Fr g L G m) (K : Below A₀ base outer g) (hsm : G.UpToSlots s'.heap) (XB : (hd.heap_39 w.params).In base) (TB : Top hd.view_39 (looseW hd.view_39 [Str.ofString "Limits"]) mean mg mb base)
    (k : ∀ h' g', KtsTurn (outer.filterMap (·.frame)) g g' → Fr g' L h' m → News g' L h' news → Below A₀ base outer g' → (hd.heap_39 w.params).In g' → Top hd.view_39 (looseW hd.view_39 [Str.ofString "Limits"]) mean mg mb g' →
      wpAny (model PySem.Challenge.rw_nz0175_01.row.prog w) ((A₀.deeper (envOf name scope L a cd)).mark (some (.ref e))) (execs (b₀ :: suite) (envOf name scope L a cd)) Q E { s' with heap := h' })
    (hk : scope.kind = .function := by rfl) (hx : (envOf name scope L a cd).kindOf (Str.ofString "Die") = some .globalImplicit := by rfl)
    (hE : PassesOwnAt (model PySem.Challenge.rw_nz0175_01.row.prog w) ((A₀.deeper (envOf name scope L a cd)).mark (some (.ref e))) (A₀.deeper (envOf name scope L a cd)) (envOf name scope L a cd) E := by passes_own) :
    wpAny (model PySem.Challenge.rw_nz0175_01.row.prog w) (A₀.deeper (envOf name scope L a cd)) (noteFrame (.ref e) (envOf name scope L a cd))
      (fun _ s₂ => wpAny (model PySem.Challenge.rw_nz0175_01.row.prog w) (A₀.deeper (envOf name scope L a cd)) (setFlight (.ref e) none) (fun _ s₃ =>
        wpAny (model PySem.Challenge.rw_nz0175_01.row.prog w) (A₀.deeper (envOf name scope L a cd)) (handleBy (.ref e) (envOf name scope L a cd) (.ExceptHandler (some (.Name (Str.ofString "Die") np)) none (b₀ :: suite) pos :: rest)) Q E s₃) E s₂) E s' := by
  have kf : PySem.Challenge.rw_nz0175_01 = PySem.Challenge.rw_nz0175_01 ∧ hd.heap_39 = hd.heap_39 := by k_fill; exact ⟨rfl, rfl⟩
  clear kf
  have q : ktsIn (hd.heap_39 w.params) 51 "BaseException" = true := by kts_isx
  have ex : nsIn (hd.heap_39 w.params) mainGlobals (Str.ofString "Die") = some (some (.ref 51)) := by k_is
  obtain ⟨B, a0, hB, hBG, hl, hfl⟩ := R
  have hL : B.get? L = none := by
    obtain ⟨_, ⟨L', _, hf, hn', _⟩, _⟩ := hfl.2.2.1
    obtain rfl : L = L' := Option.some.inj hf
    exact hn'
  refine wpAny_looks_onW (Around.frames_deeper K.stack) rfl hfl fun h₄ hheld₄ hsm₄ => ?_
  refine wpAny_landsW hheld₄ fun h₅ hheld hsm₅' => ?_
  have hsm₅ := hsm₄.trans hsm₅'
  obtain ⟨g₅, T₅, F₅, K₅⟩ := kts_ground K F hBG hheld.1 (hsm.trans hsm₅)
  have X₅ := XB.keeps K₅.stays
  have P₅ := topRead_of (TB.keeps K₅.stays)
  obtain ⟨ob, hob, hobc⟩ := hheld.there
  obtain ⟨nm, q', N, bs, bm, hdct, sn, sub, ab, col, dd, k0, k1, k2, k3, k5, newId, hC, hbase, hbT⟩ := kts_cls X₅ q
  have hC₅ := F₅.keep _ _ hC
  refine wpAny_handleBy_cons (codeAny_handlers_test (name_K F₅ X₅ P₅ ex ?_ hk hx (by decide))) (by intro q; cases q)
  refine wpAny_excMatches_sub_self hC₅ hob hobc hbase (codeAny_handlers_suite ?_)
  refine lands_againW hheld fun h₆ hfl₆ hsm₆ => ?_
  obtain ⟨g₆, T₆, F₆, K₆⟩ := kts_ground K F hBG hfl₆.1 ((hsm.trans hsm₅).trans hsm₆)
  have Nl : News g₆ L h₆ news := fun q hq => ⟨hfl₆.1 _ _ (hl q hq).1, (fun z => by have := (hl q hq).1; rw [z, hL] at this; cases this), T₆.none_ _ (kts_none F.keep (hl q hq).2.1)⟩
  exact wpAny_passesOwnAt hE (k h₆ g₆ T₆ F₆ Nl K₆ (XB.keeps K₆.stays) (TB.keeps K₆.stays))
end

section
variable {prog : Program} {w : World} {A₀ A : Around} {s : Shared} {base h₀ : Heap} {env : Env} {L : Addr} {m : Str → Option Value} {news : List (Addr × Obj)} {K : Frag} {p : Program} {loose : List Str} {mean : ExcName → Option Value} {mg mb : Str → Option Value}
    {R : Result → Shared → Prop} {name qual : Str} {params : Arguments} {body : List Stmt} {scope : Scope} {dV kV doc pm cdv ct oc : Value} {an od : Option Addr} {osl : Array (Option Value)} {f : Addr} {args : Args} {binds : List (Str × Value)}
theorem frames_one {b : Addr} (hf : env.frame = some L) (hb : b ∈ [env].filterMap (·.frame)) : b = L := by
  obtain ⟨e, he, hb⟩ := List.mem_filterMap.mp hb
  rw [List.mem_singleton.mp he, hf] at hb
  exact (Option.some.inj hb).symm
/-- a call from the lowest frame: the callee may catch, the ground's frame may get other slots -/
theorem code_def0 (B : Below A₀ base [] h₀) (F : Fr h₀ L s.heap m) (X₀ : K.In h₀) (N : News h₀ L s.heap news) (T : Top p loose mean mg mb h₀) (hA : A.frames = some [env]) (hf : env.frame = some L) (hke : env.scope.kind = .function)
    (ho : K.lookup f = some ⟨oc, od, .func (fnOf name qual params body scope dV kV doc pm an cdv ct), osl⟩) (hcd : codeIn K cdv qual = true) (hroom : A.depth < recursionLimit)
    (hbind : BindsTo s (fnOf name qual params body scope dV kV doc pm an cdv ct) args binds) (hloc : ∀ y ∈ binds, scope.names.lookup y.1 = some .local)
    (h : ∀ g L' h₁, Fr h₀ L g m → Fr g L' h₁ (fun y => binds.reverse.lookup y) → News g L' h₁ news → Below A base [env] g → K.In g → Top p loose mean mg mb g →
      wpAny (model prog w) (A.deeper (envOf qual scope L' f cdv)) (execs body (envOf qual scope L' f cdv))
        (fun fl s' => LeaveS0 ([env].filterMap (·.frame)) h₀ L m g R (match fl with | .ret v => v | _ => .none) s')
        (fun e s' => wpAny (model prog w) (A.deeper (envOf qual scope L' f cdv)) (leaving (envOf qual scope L' f cdv) e) (fun _ s'' => R (.error e) s'') (fun e' s'' => R (.error e') s'') s')
        { s with heap := h₁, toks := s.toks + binds.length })
    (hco : scope.isCoroutine = false) (hgen : scope.isGenerator = false) (hk : scope.kind = .function)
    (hcell : ∀ x ∈ scope.names, x.2 ≠ .cell) : codeAny (model prog w) A (.call (.ref f) args) R s := by
  have X := X₀.keeps F.keep
  refine codeAny_call_def (fd := fnOf name qual params body scope dV kV doc pm an cdv ct) (body := body) (binds := binds) hroom (X _ _ ho) rfl (T.nolimit.keeps F.keep) (codeRec_of X hcd) rfl hbind hcell hloc (fun h₁ hns hk₁ => ?_) hco hgen hk
  have nL₀ : h₀.get? L = none := kts_self F
  have hid : ∀ b o, h₀.get? b = some o → b ∉ news.map (·.1) := fun b o e z => by
    obtain ⟨p, hp, rfl⟩ := List.mem_map.mp z
    rw [(N p hp).2.2] at e; cases e
  have st : h₀.StaysIn (hideAll s.heap (news.map (·.1))) := fun b o e => hideAll_get _ (F.keep b o e) (hid b o e)
  obtain ⟨oL, es, ep, hL, hLd, hLk, hLf⟩ := F.ns
  have nL : L ∉ news.map (·.1) := fun z => by
    obtain ⟨p, hp, e⟩ := List.mem_map.mp z
    exact (N p hp).2.1 e
  have hLg := hideAll_get (news.map (·.1)) hL nL
  have nLb : base.get? L = none := kts_none B.stays nL₀
  have hN : ∀ (sl : Array (Option Value)) h', h'.get? L = some { oL with slots := sl } → Heap.Ns h' L m := fun sl h' e => ⟨_, es, ep, e, hLd, hLk, hLf⟩
  have B₂ : Below A base [env] (hideAll s.heap (news.map (·.1))) := ⟨hA, fun b o e => st b o (B.stays b o e), .cons (by rw [hke]; decide) hf (hN oL.slots _ hLg) nLb trivial⟩
  refine wpAny_mono (h _ s.heap.objs.size h₁ ⟨hN oL.slots _ hLg, st, F.above⟩ ⟨hns, fun b o e => hk₁ b o (of_hideAll _ e), Nat.le_of_eq (hideAll_size _ _)⟩
    (fun p hp => ⟨hk₁ _ _ (N p hp).1, Nat.ne_of_lt (Heap.lt_size (N p hp).1), hideAll_none _ (List.mem_map_of_mem hp)⟩) B₂ (X₀.keeps st) (T.keeps st)) (fun fl s' hl => ?_) fun _ _ y => y
  obtain ⟨g', L', m', news', T', F', N', k⟩ := hl
  obtain ⟨sl, hs⟩ := T'.up hLg
  refine k ⟨hN sl _ (F'.keep _ _ hs), fun b o e => F'.keep b o (T'.other b o (st b o e) (fun z => by
    rw [frames_one hf z, nL₀] at e; cases e)), F.above⟩ fun p hp => ⟨(N' p hp).1, fun z => ?_, ?_⟩
  · have := (N' p hp).2.2; rw [z, hs] at this; cases this
  · cases z : h₀.get? p.1 with
    | none => rfl
    | some o =>
      obtain ⟨sl', hs'⟩ := T'.up (st _ _ z)
      have := (N' p hp).2.2
      rw [hs'] at this; cases this
end
end Mine
end
section
open PySem PySem.W PyProof.Rows PySem.Calls PyProof.V PySem.Spec
set_option Elab.async false
namespace Mine
set_option pp.deepTerms false
set_option pp.maxSteps 3000

/-- the limits' object: its dict with text = 20 -/
abbrev limD (hs : Nat → Int) (ts us : Nat → Tok) : Obj := dictOf [⟨hs 0, .str (Str.ofString "width") (ts 0), .int 64 (us 0)⟩, ⟨hs 1, .str (Str.ofString "depth") (ts 1), .int 50 (us 1)⟩, ⟨hs 2, .str (Str.ofString "steps") (ts 2), .int 1000000 (us 2)⟩, ⟨hs 3, .str (Str.ofString "text") (ts 3), .int 20 (us 3)⟩, ⟨hs 4, .str (Str.ofString "items") (ts 4), .int 10000 (us 4)⟩] 5
/-- the contract of a call from the lowest frame -/
def Does0 (w : World) (d : Nat) (f : Addr) (vs : List Value) (led : List (Addr × Obj)) (Post : Value → List (Addr × Obj) → Prop) : Prop :=
  ∀ (mean : ExcName → Option Value) (mg mb : Str → Option Value) (A : Around) (env : Env) (A₀ : Around) (h₀ : Heap) (L : Addr) (m : Str → Option Value) (s : Shared) (Q E : Value → Shared → Prop),
    A.handled = none → A.frames = some [env] → env.frame = some L → env.scope.kind = .function → A.depth + d < recursionLimit → A.units + 100 * d < cLine →
    Below A₀ h₀ [] h₀ → Fr h₀ L s.heap m → (hd.heap_39 w.params).In h₀ → News h₀ L s.heap led → Top hd.view_39 (looseW hd.view_39 [Str.ofString "Limits"]) mean mg mb h₀ →
    (∀ v led' h' tk', Post v led' → Fr h₀ L h' m → News h₀ L h' led' → Q v { s with heap := h', toks := tk' }) →
    wpAny (model PySem.Challenge.rw_nz0175_01.row.prog w) A (call (.ref f) vs) Q E s
theorem Does0.use {w : World} {d : Nat} {f : Addr} {vs : List Value} {led : List (Addr × Obj)} {Post : Value → List (Addr × Obj) → Prop} (D : Does0 w d f vs led Post)
    {mean : ExcName → Option Value} {mg mb : Str → Option Value} {A : Around} {env : Env} {A₀ : Around} {h₀ : Heap} {L : Addr} {m : Str → Option Value} {s : Shared} {Q E : Value → Shared → Prop}
    (hh : A.handled = none) (hA : A.frames = some [env]) (hf : env.frame = some L) (hke : env.scope.kind = .function) (hdp : A.depth + d < recursionLimit) (hu : A.units + 100 * d < cLine)
    (B : Below A₀ h₀ [] h₀) (F : Fr h₀ L s.heap m) (X : (hd.heap_39 w.params).In h₀) (N : News h₀ L s.heap led) (T : Top hd.view_39 (looseW hd.view_39 [Str.ofString "Limits"]) mean mg mb h₀)
    (h : ∀ v led' h' tk', Post v led' → Fr h₀ L h' m → News h₀ L h' led' → Q v { s with heap := h', toks := tk' }) :
    wpAny (model PySem.Challenge.rw_nz0175_01.row.prog w) A (call (.ref f) vs) Q E s := D _ _ _ _ _ _ _ _ _ _ _ _ hh hA hf hke hdp hu B F X N T h
section
local macro_rules | `(tactic| k_room) => `(tactic| ((try simp only [depth_under_make, depth_under_kw, depth_in1, depth_deeper, depth_caller]); omega))
local macro_rules | `(tactic| walk_at "exec Raise some none") => `(tactic| refine hold ?_)
/-- what a repetition gives -/
theorem foldl_cat (l : List (Array Nat)) : ∀ a : Array Nat, (l.foldl (· ++ ·) a).toList = a.toList ++ (l.map (·.toList)).flatten := by
  induction l with
  | nil => intro a; simp
  | cons b r ih => intro a; rw [List.foldl_cons, ih]; simp
def repl (x : Str) (c : Int) : Str := T (List.replicate c.toNat (codesOf x)).flatten
theorem mul_repl (x : Str) (c : Int) : Txt.mul x c = repl x c := by
  unfold Txt.mul repl
  by_cases h1 : c < 1
  · rw [if_pos h1, show c.toNat = 0 by omega]; rfl
  · rw [if_neg h1]
    by_cases h2 : (c == 1 || x.length == 0) = true
    · rw [if_pos h2]
      rcases Bool.or_eq_true_iff.mp h2 with z | z
      · rw [beq_iff_eq.mp z]
        show x = T (List.replicate 1 (codesOf x)).flatten
        rw [List.replicate_one, List.flatten_singleton, T_codes]
      · have e : codesOf x = [] := List.eq_nil_of_length_eq_zero (by rw [len_codes]; exact beq_iff_eq.mp z)
        rw [e, ← T_codes x, e]
        simp
    · rw [if_neg h2]
      have := foldl_cat (List.replicate c.toNat x.cps) #[]
      rw [List.map_replicate] at this
      show (⟨_⟩ : Str) = ⟨_⟩
      congr 1
      apply Array.toList_inj.mp
      rw [this]
      simp
theorem repl_low {x : Str} {c : Int} (h : c < 1) : repl x c = Str.ofString "" := by
  unfold repl
  rw [show c.toNat = 0 by omega]
  rfl
theorem repl_nil {c : Int} : repl (Str.ofString "") c = Str.ofString "" := by
  unfold repl
  rw [show codesOf (Str.ofString "") = [] from rfl, List.flatten_replicate_nil]
  rfl
/-- what a repetition gives -/
def RepIs (x : Str) (c : Int) (v : Value) : Prop := if 1 ≤ c ∧ x ≠ Str.ofString "" ∧ 20 < (x.length : Int) * c then v = .none else ∃ t, v = .str (repl x c) t
set_option maxRecDepth 100000 in
set_option maxHeartbeats 8000000 in
theorem rep_does {w : World} {x : Str} {c : Int} {t u : Tok} {lim dx : Addr} {hs : Nat → Int} {ts us : Nat → Tok} {led : List (Addr × Obj)} (hx : x.length ≤ 20) :
    Does0 w 9 143 [.str x t, .int c u, .ref lim] ((lim, instObj 106 dx) :: (dx, limD hs ts us) :: led) (fun v led' => RepIs x c v ∧ led' = ((lim, instObj 106 dx) :: (dx, limD hs ts us) :: led)) := by
  have kf : PySem.Challenge.rw_nz0175_01 = PySem.Challenge.rw_nz0175_01 ∧ hd.heap_39 = hd.heap_39 := by k_fill; exact ⟨rfl, rfl⟩
  clear kf
  intro mean mg mb A env A₀ h₀ L m s Q E hh hA hf hke hdp hu B F X N T hret
  obtain ⟨hdl, dep, frs, gds, un⟩ := A
  dsimp only at hh hA hdp hu
  subst hh hA
  refine wpAny_call ?_
  k_dflt (refine' code_def0 (binds := [(Str.ofString "word", .str x t), (Str.ofString "count", .int c u), (Str.ofString "limits", .ref lim)]) B F X N T rfl hf hke ?k6 ?k7 ?k8 ?k9 ?kB ?_ ?c2 ?c3 ?c4 ?c5; (case k6 => k_is); (case k7 => k_is); (case k8 => (show dep < _; omega)); (case k9 => exact BindsTo.of_eq rfl); (case c5 => decide); (case kB => exact locs rfl); (case c2 => exact rfl); (case c3 => exact rfl); (case c4 => exact rfl); k_whole)
  intro g' L' h' FG' F' N' B' X' T'
  (try dsimp only)
  k_steps
  · exact hret _ _ _ _ ⟨by rw [RepIs, if_neg (by omega), repl_low (by assumption)]; exact ⟨_, rfl⟩, rfl⟩ (by assumption) (by assumption)
  · rename (x == Str.ofString "") = true => hz
    exact hret _ _ _ _ ⟨by rw [RepIs, if_neg (fun z => z.2.1 (beq_iff_eq.mp hz)), beq_iff_eq.mp hz, repl_nil]; exact ⟨_, rfl⟩, rfl⟩ (by assumption) (by assumption)
  · rename (x == Str.ofString "") = false => hz
    rename ¬ c < 1 => hc
    rename 20 < (x.length : Int) * c => h20
    unfold Hold
    refine raise_die rfl ?_
    k_steps
    refine die_does.use (by exact rfl) (by exact rfl) (by exact rfl) (by exact rfl) ?_ ?_ (by k_asm) (by k_asm) (by k_asm) (by k_asm) (by k_asm) ?_
    · show dep + 1 + 1 + 6 < _
      omega
    · show un + 3 + 3 + 100 * 6 < _
      omega
    · rintro v led' h'' tk' ⟨e, a1, dxx, rfl, rfl, off⟩ F'' N''
      refine ⟨e, a1, some dxx, rfl, (N'' _ (.head _)).1, Frag.In.keeps (by k_asm) (Fr.keep F''), ?_⟩
      k_unfold
      refine leave_die (by assumption) F'' N'' off ?_
      intro h3 R3 U3
      refine caught_die R3 (by assumption) (by assumption) U3 X T ?_
      intro h4 g4 T4 F4 N4 B4 X4 P4
      k_steps
      have hp : 1 ≤ c ∧ x ≠ Str.ofString "" ∧ 20 < (x.length : Int) * c := ⟨by omega, (fun z => by rw [z, beq_self_eq_true] at hz; cases hz), h20⟩
      exact hret _ _ _ _ ⟨by rw [RepIs, if_pos hp], rfl⟩ (by assumption) (by assumption)
  · rename (x == Str.ofString "") = false => hz
    rename ¬ c < 1 => hc
    rename ¬ 20 < (x.length : Int) * c => h20
    have hx1 : 1 ≤ x.length := by
      have := List.length_pos_iff.mpr (ne_nil hz)
      rw [len_codes] at this
      exact this
    have hx1' : (1 : Int) ≤ (x.length : Int) := by exact_mod_cast hx1
    have hc20 : c ≤ 20 := by
      have := Int.mul_le_mul_of_nonneg_right hx1' (show (0 : Int) ≤ c by omega)
      omega
    refine SB.mul ⟨by rw [decide_eq_false (by omega), decide_eq_false (by omega)]; rfl, fun _ _ => ?_, fun _ _ => ?_⟩ ?_
    · have h1 : (461168601842738790 : Int) ≤ (2 ^ 63 - 1) / c := by
        rw [Int.le_ediv_iff_mul_le (by omega)]
        omega
      have h2 : (x.length : Int) ≤ 20 := by exact_mod_cast hx
      omega
    · have h1 : x.length * c.toNat ≤ 20 * 20 := Nat.mul_le_mul hx (by omega)
      unfold Builtin.Str.tooLong
      rw [sizeLine_eq]
      simp
      omega
    · intro t' k
      rw [mul_repl]
      k_steps
      exact hret _ _ _ _ ⟨by rw [RepIs, if_neg (fun z => h20 z.2.2)]; exact ⟨_, rfl⟩, rfl⟩ (by assumption) (by assumption)
end
end Mine
end
section
open PySem PySem.W PyProof.Rows PySem.Calls PyProof.V PySem.Spec
set_option Elab.async false
namespace Mine
set_option pp.deepTerms false
set_option pp.maxSteps 3000
/-- how a turn of a loop ends: the iterator as it was, the invariant of the next turn -/
def TurnEnd (h₀ : Heap) (L I : Addr) (oI : Obj) (Jn : (Str → Option Value) → List (Addr × Obj) → Prop) (s₁ : Shared) (Qr : Value → Shared → Prop) (Qb : Shared → Prop) (f : Flow) (s₂ : Shared) : Prop :=
  match f with
  | .ret v => Qr v s₂
  | .brk => Qb s₂
  | _ => ∃ h' tk m₂ news₂, s₂ = { s₁ with heap := h', toks := tk } ∧ Fr h₀ L h' m₂ ∧ News h₀ L h' ((I, oI) :: news₂) ∧ (∀ p ∈ news₂, p.1 ≠ I) ∧ Jn m₂ news₂
/-- a loop over a list, by an invariant of the names and the ledger -/
def ListLoop (prog : Program) (w : World) (A : Around) (h₀ : Heap) (env : Env) (x : Str) (body : List Stmt) (Q : Flow → Shared → Prop) (E : Value → Shared → Prop) (xv : Value) (s₁ : Shared) : Prop :=
  ∃ (ax : Addr) (vs : List Value) (k : Nat) (m : Str → Option Value) (news : List (Addr × Obj)) (J : Nat → (Str → Option Value) → List (Addr × Obj) → Prop),
    xv = .ref ax ∧ Fr h₀ env.locals s₁.heap m ∧ News h₀ env.locals s₁.heap news ∧ J 0 m news ∧ (∀ i m' news', J i m' news' → (ax, listOf vs.toArray k) ∈ news') ∧
    (∀ i v I oI m₁ news₁ h tk, i < vs.length → vs[i]? = some v → J i m₁ news₁ → (∀ p ∈ news₁, p.1 ≠ I) → Fr h₀ env.locals h (fun y => if y = x then some v else m₁ y) → News h₀ env.locals h ((I, oI) :: news₁) →
      wpAny (model prog w) A (execs body env) (TurnEnd h₀ env.locals I oI (J (i + 1)) { s₁ with heap := h, toks := tk } (fun v s' => Q (.ret v) s') fun s' => Q .next s') E { s₁ with heap := h, toks := tk }) ∧
    ∀ h' tk m' news', Fr h₀ env.locals h' m' → News h₀ env.locals h' news' → J vs.length m' news' → Q .next { s₁ with heap := h', toks := tk }

theorem fr_as {h₀ h : Heap} {L : Addr} {f f' : Str → Option Value} (F : Fr h₀ L h f) (e : ∀ y, f y = f' y) : Fr h₀ L h f' := by
  rw [← (funext e : f = f')]
  exact F
theorem fr_shape {h₀ h : Heap} {L : Addr} {x : Str} {n n' : Int} {t : Tok} {f f' : Str → Option Value} (F : Fr h₀ L h (fun y => if y = x then some (.int n t) else f y)) (hn : n = n') (hf : ∀ y, y ≠ x → f y = f' y) :
    Fr h₀ L h (fun y => if y = x then some (.int n' t) else f' y) := fr_as F fun y => by
  by_cases hy : y = x
  · rw [if_pos hy, if_pos hy, hn]
  · rw [if_neg hy, if_neg hy, hf y hy]
section
variable {prog : Program} {w : World} {A : Around} {E : Value → Shared → Prop} {s : Shared} {h₀ : Heap} {env : Env}
theorem For_list {Q : Flow → Shared → Prop} {x : Str} {px pos : Pos} {iter : Expr} {body : List Stmt} {m₀ : Str → Option Value} (_F : Fr h₀ env.locals s.heap m₀) (hh : A.handled = none) (hx : env.kindOf x = some .local)
    (hp : (env.scope.kind == .class || (env.scope.kind == .module && env.locals != env.globals)) = false)
    (h : wpAny (model prog w) A (eval iter env) (fun xv s₁ => ListLoop prog w A h₀ env x body Q E xv s₁) E s)
    (hs : ∀ x, foldedSetIterable iter env x = pure x := by intro _; rfl)
    (hE : PassesOwn (model prog w) A env E := by passes_own) :
    wpAny (model prog w) A (exec (.For (.Name x px) iter body [] pos) env) Q E s := by
  refine For_invV h₀ hx hp (wpAny_mono h (fun xv s₁ h₁ => ?_) fun _ _ e => e) hs hE
  obtain ⟨ax, vs, k, m, news, J, rfl, F, N, h0, hJ, step, fin⟩ := h₁
  have hax := N _ (hJ 0 _ _ h0)
  have hl : s₁.heap.IsList ax vs.toArray := News.isList N (hJ 0 _ _ h0)
  have hlt : ax < s₁.heap.objs.size := Heap.lt_size hax.1
  have hne : ax ≠ s₁.heap.objs.size := Nat.ne_of_lt hlt
  refine wpAny_pyIter_list hl ?_
  refine ⟨_, _, _, _, _, _, m, news, fun i m' news' => J i m' news', rfl, Walks.list hh s₁.heap.objs.size ax hne vs.toArray, ?_, ?_, ?_, ?_, F.push _, fun p hp => ⟨Heap.get?_push_of_some _ (N p hp).1, (N p hp).2⟩, h0, ?_, ?_⟩
  · intro hI
    rcases List.mem_cons.mp hI with e | hI
    · exact absurd F.ns.lt (e ▸ Nat.lt_irrefl _)
    · exact hax.2.1 (List.mem_singleton.mp hI).symm
  · intro b hb
    rw [List.mem_singleton.mp hb]
    exact next_is_new F
  · intro p hp hI
    exact absurd (Heap.lt_size (N p hp).1) ((List.mem_singleton.mp hI) ▸ Nat.lt_irrefl _)
  · exact ⟨⟨_, Heap.get?_push_size _ rfl, rfl, rfl⟩, hl.at fun o e => Heap.get?_push_of_some _ e⟩
  · rintro i v m₁ news₁ s₂ own ⟨hp, tk, rfl⟩ hi hv hJi hnw hfp hown hall hst F₁ N₁
    obtain ⟨⟨oI, hoI, _⟩, _⟩ := hst
    have hiv : i < vs.length := by simpa using hi
    have hmI : (s₁.heap.objs.size, oI) ∈ own := hall _ (.head _) (next_is_new F) _ hoI
    have hN1 : News h₀ env.locals hp ((s₁.heap.objs.size, oI) :: news₁) := subN N₁ fun p hp => by
      rcases List.mem_cons.mp hp with rfl | q
      · exact List.mem_append_left _ hmI
      · exact List.mem_append_right _ q
    refine wpAny_mono (step i v s₁.heap.objs.size oI m₁ news₁ hp tk hiv (by simpa using hv) hJi (fun p hq e => hnw p hq (by rw [e]; exact List.mem_singleton_self _)) F₁ hN1) (fun f s₃ hf => ?_) fun _ _ e => e
    have rest : (∃ h' tk m₂ news₂, s₃ = { { s₁ with heap := hp, toks := tk } with heap := h', toks := tk } ∧ Fr h₀ env.locals h' m₂ ∧ News h₀ env.locals h' ((s₁.heap.objs.size, oI) :: news₂) ∧ (∀ p ∈ news₂, p.1 ≠ s₁.heap.objs.size) ∧ J (i + 1) m₂ news₂) →
        LoopStepU h₀ env.locals [s₁.heap.objs.size] own (J (i + 1)) { s₁ with heap := hp, toks := tk } .next s₃ := by
      rintro ⟨h', tk', m₂, news₂, rfl, F₂, N₂, off, hJ₂⟩
      refine ⟨rfl, h', tk', m₂, news₂, rfl, F₂, ?_, fun p hq e => off p hq (List.mem_singleton.mp e), hJ₂⟩
      intro p hp'
      rcases List.mem_append.mp hp' with q | q
      · rcases List.mem_cons.mp (hfp p q) with e | e
        · have h1 := hown p q
          rw [e] at h1
          have h2 := (hown _ hmI).symm.trans h1
          obtain ⟨pa, po⟩ := p
          dsimp only at e h2
          cases h2
          subst e
          exact N₂ _ (.head _)
        · have e' := List.mem_singleton.mp e
          have h1 := hown p q
          rw [e'] at h1
          have h2 := (N₁ _ (List.mem_append_right _ (hJ _ _ _ hJi))).1.symm.trans h1
          obtain ⟨pa, po⟩ := p
          dsimp only at e' h2
          cases h2
          subst e'
          exact N₂ _ (.tail _ (hJ _ _ _ hJ₂))
      · exact N₂ _ (.tail _ q)
    cases f with
    | ret v => exact hf
    | brk => exact hf
    | cont => exact rest hf
    | next => exact rest hf
  · intro h' tk m' news' F' N' _ hJ'
    exact fin h' tk m' news' F' N' (by simpa using hJ')
end
end Mine
end
section
open PySem PySem.W PyProof.Rows PySem.Calls PyProof.V PySem.Spec
set_option Elab.async false
namespace Mine
set_option pp.deepTerms false
set_option pp.maxSteps 3000
theorem sa_at : ∀ {vs : List Value} {ws : List Str} {k : Nat} {v : Value}, StrsAre vs ws → vs[k]? = some v → ∃ x t, ws[k]? = some x ∧ v = .str x t := by
  intro vs ws k v h
  induction h generalizing k with
  | nil => intro e; cases e
  | cons _ _ _ ih =>
    cases k with
    | zero => intro e; cases e; exact ⟨_, _, rfl, rfl⟩
    | succ k => intro e; exact ih e
theorem sum_succ {ws : List Str} {i : Nat} {y : Str} (h : ws[i]? = some y) : ((ws.take (i + 1)).map (·.length)).sum = ((ws.take i).map (·.length)).sum + y.length := by
  rw [List.take_add_one, h]
  simp
theorem sum_le5 : ∀ {ws : List Str}, (∀ y ∈ ws, y.length ≤ 5) → (ws.map (·.length)).sum ≤ 5 * ws.length
  | [], _ => by simp
  | y :: r, h => by
    have h1 := h y (.head _)
    have h2 := sum_le5 (ws := r) fun z hz => h z (.tail _ hz)
    simp only [List.map_cons, List.sum_cons, List.length_cons]
    omega
theorem len_cat (a b : Str) : (a ++ b).length = a.length + b.length := by
  show (a.cps ++ b.cps).size = _
  rw [Array.size_append]
  rfl
theorem join_len (b : Str) : ∀ ws : List Str, ((Str.join b ws).length : Int) = ((b.length : Nat) : Int) * (if 0 > ((ws.length : Nat) : Int) - 1 then 0 else ((ws.length : Nat) : Int) - 1) + ((ws.map (·.length)).sum : Nat)
  | [] => by simp [Str.join, Str.empty, Str.length]
  | [y] => by simp [Str.join]
  | y :: z :: r => by
    have ih := join_len b (z :: r)
    have e : Str.join b (y :: z :: r) = y ++ b ++ Str.join b (z :: r) := rfl
    rw [e, len_cat, len_cat]
    simp only [List.length_cons, List.map_cons, List.sum_cons] at ih ⊢
    rw [if_neg (by omega)] at ih
    rw [if_neg (by omega)]
    push_cast at ih ⊢
    rw [show (((r.length : Int) + 1 + 1 - 1)) = ((r.length : Int) + 1 - 1) + 1 by omega, Int.mul_add, Int.mul_one]
    omega
/-- what a joining gives -/
def JoinIs (b : Str) (ws : List Str) (v : Value) : Prop := if 20 < (Str.join b ws).length then v = .none else ∃ t, v = .str (Str.join b ws) t
section
local macro_rules | `(tactic| k_room) => `(tactic| ((try simp only [depth_under_make, depth_under_kw, depth_in1, depth_deeper, depth_caller]); omega))
local macro_rules | `(tactic| walk_at "exec Raise some none") => `(tactic| refine hold ?_)
local macro_rules | `(tactic| walk_at "exec For Name") => `(tactic| refine hold ?_)
local macro_rules | `(tactic| walk_at "call builtin:len") => `(tactic| (k_here; (with_reducible show wpAny _ _ (call (Value.builtin "len") [Value.ref _]) _ _ _); (refine len_strs (News.isList (by assumption) (.tail _ (.tail _ (by assumption)))) (by assumption) (by omega) ?_)))
set_option maxRecDepth 100000 in
set_option maxHeartbeats 8000000 in
theorem join_does {w : World} {x : Str} {t : Tok} {wl lim dx : Addr} {us : List Value} {ws : List Str} {k : Nat} {hs : Nat → Int} {ts tu : Nat → Tok} {led : List (Addr × Obj)} (hx : x.length ≤ 5) (hi : StrsAre us ws) (hn : ws.length ≤ 6) (h5 : ∀ y ∈ ws, y.length ≤ 5) (hw : (wl, listOf us.toArray k) ∈ led) :
    Does0 w 9 136 [.str x t, .ref wl, .ref lim] ((lim, instObj 106 dx) :: (dx, limD hs ts tu) :: led) (fun v led' => JoinIs x ws v ∧ led' = ((lim, instObj 106 dx) :: (dx, limD hs ts tu) :: led)) := by
  have kf : PySem.Challenge.rw_nz0175_01 = PySem.Challenge.rw_nz0175_01 ∧ hd.heap_39 = hd.heap_39 := by k_fill; exact ⟨rfl, rfl⟩
  clear kf
  intro mean mg mb A env A₀ h₀ L m s Q E hh hA hf hke hdp hu B F X N T hret
  obtain ⟨hdl, dep, frs, gds, un⟩ := A
  dsimp only at hh hA hdp hu
  subst hh hA
  refine wpAny_call ?_
  k_dflt (refine' code_def0 (binds := [(Str.ofString "between", .str x t), (Str.ofString "words", .ref wl), (Str.ofString "limits", .ref lim)]) B F X N T rfl hf hke ?k6 ?k7 ?k8 ?k9 ?kB ?_ ?c2 ?c3 ?c4 ?c5; (case k6 => k_is); (case k7 => k_is); (case k8 => (show dep < _; omega)); (case k9 => exact BindsTo.of_eq rfl); (case c5 => decide); (case kB => exact locs rfl); (case c2 => exact rfl); (case c3 => exact rfl); (case c4 => exact rfl); k_whole)
  intro g' L' h' FG' F' N' B' X' T'
  (try dsimp only)
  have hwN : ∀ {h : Heap} {g : Heap} {L : Addr}, News g L h ((lim, instObj 106 dx) :: (dx, limD hs ts tu) :: led) → h.IsList wl us.toArray := fun N => News.isList N (.tail _ (.tail _ hw))
  k_steps
  unfold Hold
  rename Fr _ _ _ _ => kF
  rename News _ _ _ _ => kN
  refine For_list kF (by exact rfl) (by exact rfl) (by exact rfl) ?_
  k_steps
  have kF2 := fr_shape (n' := ((x.length : Nat) : Int) * (if 0 > ((ws.length : Nat) : Int) - 1 then 0 else ((ws.length : Nat) : Int) - 1) + (((ws.take 0).map (·.length)).sum : Nat)) (f' := fun y => if y = Str.ofString "text" then none else List.lookup y [(Str.ofString "between", .str x t), (Str.ofString "texts", .ref wl), (Str.ofString "limits", .ref lim)].reverse) kF (by simp) (fun y hy => by
    by_cases h2 : y = Str.ofString "text"
    · rw [if_pos h2, h2]; rfl
    · rw [if_neg h2]; rfl)
  refine ⟨wl, us, k, _, _, fun i m' news' => news' = ((lim, instObj 106 dx) :: (dx, limD hs ts tu) :: led) ∧ ∃ vl tz, m' = fun y => if y = Str.ofString "size" then some (.int (((x.length : Nat) : Int) * (if 0 > ((ws.length : Nat) : Int) - 1 then 0 else ((ws.length : Nat) : Int) - 1) + (((ws.take i).map (·.length)).sum : Nat)) tz) else if y = Str.ofString "text" then vl else List.lookup y [(Str.ofString "between", .str x t), (Str.ofString "texts", .ref wl), (Str.ofString "limits", .ref lim)].reverse, rfl, kF2, kN, ⟨rfl, none, _, rfl⟩, ?_, ?_, ?_⟩
  · rintro i m' news' ⟨rfl, _⟩
    exact .tail _ (.tail _ hw)
  · rintro i v I oI m₁ news₁ h tk hi' hv ⟨rfl, vl, tz, rfl⟩ off F₁ N₁
    obtain ⟨y, ty, hy, rfl⟩ := sa_at hi hv
    have hy5 : y.length ≤ 5 := h5 y (List.mem_of_getElem? hy)
    (try dsimp only at F₁ N₁ ⊢)
    k_steps
    unfold TurnEnd
    dsimp only
    refine ⟨_, _, _, _, rfl, fr_shape (by assumption) ?_ ?_, by assumption, off, rfl, some (.str y ty), _, rfl⟩
    · rw [sum_succ hy]
      push_cast
      omega
    · intro z hz
      by_cases h2 : z = Str.ofString "text"
      · rw [if_pos h2, if_pos h2]
      · rw [if_neg h2, if_neg hz, if_neg h2, if_neg h2]
  · rintro h4 tk4 m4 news4 F4 N4 ⟨rfl, vl, tz, rfl⟩
    rw [hi.length, List.take_length] at F4
    dsimp only at F4 N4 ⊢
    have hlen := join_len x ws
    have hsum := sum_le5 h5
    k_steps
    · unfold Hold
      refine raise_die rfl ?_
      k_steps
      refine die_does.use (by exact rfl) (by exact rfl) (by exact rfl) (by exact rfl) ?_ ?_ (by k_asm) (by k_asm) (by k_asm) (by k_asm) (by k_asm) ?_
      · show dep + 1 + 1 + 6 < _
        omega
      · show un + 3 + 3 + 100 * 6 < _
        omega
      · rintro v led' h'' tk' ⟨e, a1, dxx, rfl, rfl, off⟩ F'' N''
        refine ⟨e, a1, some dxx, rfl, (N'' _ (.head _)).1, Frag.In.keeps (by k_asm) (Fr.keep F''), ?_⟩
        k_unfold
        refine leave_die (by assumption) F'' N'' off ?_
        intro h3 R3 U3
        refine caught_die R3 (by assumption) (by assumption) U3 X T ?_
        intro h4 g4 T4 F4 N4 B4 X4 P4
        k_steps
        exact hret _ _ _ _ ⟨by rw [JoinIs, if_pos (by omega)], rfl⟩ (by assumption) (by assumption)
    · refine join_listW (News.isList N4 (.tail _ (.tail _ hw))) hi (by omega) (by omega) ?_
      intro t' k'
      rw [show Txt.join x ws = Str.join x ws from StrLaws.glued_eq_join _ _]
      k_steps
      exact hret _ _ _ _ ⟨by rw [JoinIs, if_neg (by omega)]; exact ⟨_, rfl⟩, rfl⟩ (by assumption) (by assumption)
end
end Mine
end
section
open PySem PySem.W PyProof.Rows PySem.Calls PyProof.V PySem.Spec
set_option Elab.async false
namespace Mine
set_option pp.deepTerms false
set_option pp.maxSteps 3000
theorem ia_drop : ∀ {vs : List Value} {ws : List Int} (k : Nat), IntsAre vs ws → IntsAre (vs.drop k) (ws.drop k)
  | _, _, 0, h => h
  | _, _, _ + 1, .nil => .nil
  | _, _, k + 1, .cons _ _ r => ia_drop k r
theorem ia_take : ∀ {vs : List Value} {ws : List Int} (k : Nat), IntsAre vs ws → IntsAre (vs.take k) (ws.take k)
  | _, _, 0, _ => .nil
  | _, _, _ + 1, .nil => .nil
  | _, _, k + 1, .cons y t r => .cons y t (ia_take k r)
section
variable {prog : Program} {w : World} {A : Around} {E : Value → Shared → Prop} {s : Shared} {h₀ : Heap} {L D : Addr} {m : Str → Option Value} {news : List (Addr × Obj)} {vs : List Value} {ws : List Int}
theorem slice_ints {value slice : Expr} {vl vu : Value} {lo hi : Option Int} {Q : Value → Shared → Prop} (F : Fr h₀ L s.heap m) (N : News h₀ L s.heap news) (hl : s.heap.IsList D vs.toArray) (hi' : IntsAre vs ws) (pl : IsPart vl lo) (pu : IsPart vu hi) (hz : ws.length ≤ sizeLine)
    (h : ∀ D' us h', Fr h₀ L h' m → News h₀ L h' ((D', listOf us.toArray 0) :: news) → (∀ p ∈ news, p.1 < D') → IntsAre us ((ws.drop (kms_lo lo ws.length)).take (kms_hi hi ws.length - kms_lo lo ws.length)) → Q (.ref D') { s with heap := h' })
    (hs : subscripted slice false (.ref D) (.ref s.heap.objs.size) = operate [.ref s.heap.objs.size, .ref D] (getItem (.ref D) (.ref s.heap.objs.size)) := by with_unfolding_all rfl) (ht : ∀ r, letTemporaryGo value (.ref D) r = pure () := by intro _; with_unfolding_all rfl) :
    wpAny (model prog w) A (subscriptTail value slice (.ref D) (.ref s.heap.objs.size)) Q E { s with heap := s.heap.push { cls := .type "slice", data := .fields #[vl, vu, .none] } } := by
  have hvl : vs.length = ws.length := hi'.length
  refine kms_slice_lit F N hl pl pu rfl (fun D' h' F' N' l1 => h D' _ h' F' N' l1 ?_) hs ht (by simp; omega)
  unfold kms_pick
  simp only [hvl]
  exact ia_take _ (ia_drop _ hi')
end
end Mine
end
section
open PySem PySem.W PyProof.Rows PySem.Calls PyProof.V PySem.Spec
set_option Elab.async false
namespace Mine
set_option pp.deepTerms false
set_option pp.maxSteps 3000
/-- a loop over range(n), by an invariant of the names and the ledger -/
def RangeLoop (prog : Program) (w : World) (A : Around) (h₀ : Heap) (env : Env) (x : Str) (body : List Stmt) (Q : Flow → Shared → Prop) (E : Value → Shared → Prop) (xv : Value) (s₁ : Shared) : Prop :=
  ∃ (r : Addr) (n : Nat) (ta tb tc : Tok) (m : Str → Option Value) (news : List (Addr × Obj)) (J : Nat → (Str → Option Value) → List (Addr × Obj) → Prop),
    xv = .ref r ∧ IsRange s₁.heap r 0 ((n : Nat) : Int) 1 ta tb tc ∧ Builtin.Range.small 0 ((n : Nat) : Int) 1 = true ∧ Builtin.Range.rangeSize 0 ((n : Nat) : Int) 1 = ((n : Nat) : Int) ∧ Fr h₀ env.locals s₁.heap m ∧ News h₀ env.locals s₁.heap news ∧ J 0 m news ∧
    (∀ i t I oI m₁ news₁ h tk, i < n → J i m₁ news₁ → (∀ p ∈ news₁, p.1 ≠ I) → Fr h₀ env.locals h (fun y => if y = x then some (.int ((i : Nat) : Int) t) else m₁ y) → News h₀ env.locals h ((I, oI) :: news₁) →
      wpAny (model prog w) A (execs body env) (TurnEnd h₀ env.locals I oI (J (i + 1)) { s₁ with heap := h, toks := tk } (fun v s' => Q (.ret v) s') fun s' => Q .next s') E { s₁ with heap := h, toks := tk }) ∧
    ∀ h' tk m' news', Fr h₀ env.locals h' m' → News h₀ env.locals h' news' → J n m' news' → Q .next { s₁ with heap := h', toks := tk }

section
variable {prog : Program} {w : World} {A : Around} {E : Value → Shared → Prop} {s : Shared} {h₀ : Heap} {env : Env}
theorem For_range {Q : Flow → Shared → Prop} {x : Str} {px pos : Pos} {iter : Expr} {body : List Stmt} {m₀ : Str → Option Value} (_F : Fr h₀ env.locals s.heap m₀) (hh : A.handled = none) (hx : env.kindOf x = some .local)
    (hp : (env.scope.kind == .class || (env.scope.kind == .module && env.locals != env.globals)) = false)
    (h : wpAny (model prog w) A (eval iter env) (fun xv s₁ => RangeLoop prog w A h₀ env x body Q E xv s₁) E s)
    (hs : ∀ x, foldedSetIterable iter env x = pure x := by intro _; rfl)
    (hE : PassesOwn (model prog w) A env E := by passes_own) :
    wpAny (model prog w) A (exec (.For (.Name x px) iter body [] pos) env) Q E s := by
  refine For_invV h₀ hx hp (wpAny_mono h (fun xv s₁ h₁ => ?_) fun _ _ e => e) hs hE
  obtain ⟨r, n, ta, tb, tc, m, news, J, rfl, hr, hsm, hn, F, N, h0, step, fin⟩ := h₁
  refine wpAny_pyIter_range hr hsm ?_
  have up : ∀ b o, s₁.heap.get? b = some o → (s₁.heap.push { cls := .type "range_iterator", data := .fields #[.int 0 0, .int 0 0, .int 0 0] }).get? b = some o := fun b o e => Heap.get?_push_of_some _ e
  refine ⟨_, _, _, _, _, _, m, news, fun i m' news' => J i m' news', rfl, LCg.range_walks hh 0 n, ?_, ?_, ?_, ?_, F.push _, fun p hp => ⟨Heap.get?_push_of_some _ (N p hp).1, (N p hp).2⟩, h0, ?_, ?_⟩
  · intro hI
    exact absurd F.ns.lt ((List.mem_singleton.mp hI) ▸ Nat.lt_irrefl _)
  · intro b hb
    rw [List.mem_singleton.mp hb]
    exact next_is_new F
  · intro p hp hI
    exact absurd (Heap.lt_size (N p hp).1) ((List.mem_singleton.mp hI) ▸ Nat.lt_irrefl _)
  · show IsRangeIter _ _ _ _ _
    rw [hn]
    simpa using Heap.get?_push_size _ rfl
  · rintro i v m₁ news₁ s₂ own ⟨hp, tk, rfl⟩ hi ⟨tv, hv⟩ hJi hnw hfp hown hall hst F₁ N₁
    rw [Int.zero_add] at hv
    subst hv
    have hoI := hst
    obtain ⟨oI, hoI⟩ : ∃ o, hp.get? s₁.heap.objs.size = some o := ⟨_, hst⟩
    have hmI : (s₁.heap.objs.size, oI) ∈ own := hall _ (.head _) (next_is_new F) _ hoI
    have hN1 : News h₀ env.locals hp ((s₁.heap.objs.size, oI) :: news₁) := fun p hp' => by
      rcases List.mem_cons.mp hp' with rfl | q
      · exact N₁ _ (List.mem_append_left _ hmI)
      · exact N₁ _ (List.mem_append_right _ q)
    refine wpAny_mono (step i tv s₁.heap.objs.size oI m₁ news₁ hp tk hi hJi (fun p hq e => hnw p hq (by rw [e]; exact List.mem_singleton_self _)) F₁ hN1) (fun f s₃ hf => ?_) fun _ _ e => e
    have rest : (∃ h' tk m₂ news₂, s₃ = { { s₁ with heap := hp, toks := tk } with heap := h', toks := tk } ∧ Fr h₀ env.locals h' m₂ ∧ News h₀ env.locals h' ((s₁.heap.objs.size, oI) :: news₂) ∧ (∀ p ∈ news₂, p.1 ≠ s₁.heap.objs.size) ∧ J (i + 1) m₂ news₂) →
        LoopStepU h₀ env.locals [s₁.heap.objs.size] own (J (i + 1)) { s₁ with heap := hp, toks := tk } .next s₃ := by
      rintro ⟨h', tk', m₂, news₂, rfl, F₂, N₂, off, hJ₂⟩
      refine ⟨rfl, h', tk', m₂, news₂, rfl, F₂, ?_, fun p hq e => off p hq (List.mem_singleton.mp e), hJ₂⟩
      intro p hp'
      rcases List.mem_append.mp hp' with q | q
      · have e := List.mem_singleton.mp (hfp p q)
        have h1 := hown p q
        rw [e] at h1
        have h2 := hoI.symm.trans h1
        obtain ⟨pa, po⟩ := p
        dsimp only at e h2
        cases h2
        subst e
        exact N₂ _ (.head _)
      · exact N₂ _ (.tail _ q)
    cases f with
    | ret v => exact hf
    | brk => exact hf
    | cont => exact rest hf
    | next => exact rest hf
  · intro h' tk m' news' F' N' _ hJ'
    exact fin h' tk m' news' F' N' hJ'
end
end Mine
end
section
open PySem PySem.W PyProof.Rows PySem.Calls PyProof.V PySem.Spec
set_option Elab.async false
namespace Mine
set_option pp.deepTerms false
set_option pp.maxSteps 3000
theorem fr_set {h₀ h : Heap} {L : Addr} {x : Str} {v v' : Option Value} {f f' : Str → Option Value} (F : Fr h₀ L h (fun y => if y = x then v else f y)) (hv : v = v') (hf : ∀ y, y ≠ x → f y = f' y) :
    Fr h₀ L h (fun y => if y = x then v' else f' y) := fr_as F fun y => by
  by_cases hy : y = x
  · rw [if_pos hy, if_pos hy, hv]
  · rw [if_neg hy, if_neg hy, hf y hy]
theorem news_lim {h₀ h : Heap} {L lim dx : Addr} {led : List (Addr × Obj)} {h0 h1 h2 h3 h4 : Int} {t0 t1 t2 t3 t4 u0 u1 u2 u3 u4 : Tok}
    (N : News h₀ L h ((lim, instObj 106 dx) :: (dx, dictOf [⟨h0, .str (Str.ofString "width") t0, .int 64 u0⟩, ⟨h1, .str (Str.ofString "depth") t1, .int 50 u1⟩, ⟨h2, .str (Str.ofString "steps") t2, .int 1000000 u2⟩, ⟨h3, .str (Str.ofString "text") t3, .int 20 u3⟩, ⟨h4, .str (Str.ofString "items") t4, .int 10000 u4⟩] 5) :: led)) :
    ∃ hs ts us, News h₀ L h ((lim, instObj 106 dx) :: (dx, limD hs ts us) :: led) :=
  ⟨fun i => [h0, h1, h2, h3, h4].getD i 0, fun i => [t0, t1, t2, t3, t4].getD i 0, fun i => [u0, u1, u2, u3, u4].getD i 0, N⟩
theorem cat_nil (x : Str) : x ++ Str.ofString "" = x := by
  show (⟨x.cps ++ #[]⟩ : Str) = x
  rw [Array.append_empty]
theorem nil_cat (x : Str) : Str.ofString "" ++ x = x := by
  show (⟨#[] ++ x.cps⟩ : Str) = x
  rw [Array.empty_append]
theorem cat_assoc (x y z : Str) : x ++ y ++ z = x ++ (y ++ z) := by
  show (⟨x.cps ++ y.cps ++ z.cps⟩ : Str) = ⟨x.cps ++ (y.cps ++ z.cps)⟩
  rw [Array.append_assoc]
theorem join_snoc (b y : Str) : ∀ ws : List Str, ws ≠ [] → Str.join b (ws ++ [y]) = Str.join b ws ++ b ++ y
  | [], h => absurd rfl h
  | [x], _ => rfl
  | x :: z :: r, _ => by
    have ih := join_snoc b y (z :: r) (List.cons_ne_nil _ _)
    show x ++ b ++ Str.join b (z :: r ++ [y]) = x ++ b ++ Str.join b (z :: r) ++ b ++ y
    rw [ih]
    simp only [cat_assoc]
theorem join_take {ws : List Str} {i : Nat} {y : Str} (b : Str) (h : ws[i]? = some y) : Str.join b (ws.take (i + 1)) = Str.join b (ws.take i) ++ (if 0 < i then b else Str.ofString "") ++ y := by
  have e : ws.take (i + 1) = ws.take i ++ [y] := by rw [List.take_add_one, h]; rfl
  rw [e]
  by_cases hi : 0 < i
  · have hl : i < ws.length := (List.getElem?_eq_some_iff.mp h).1
    rw [if_pos hi]
    refine join_snoc b y _ fun z => ?_
    have := congrArg List.length z
    rw [List.length_take] at this
    simp only [List.length_nil] at this
    omega
  · obtain rfl : i = 0 := by omega
    rw [if_neg hi]
    show y = Str.ofString "" ++ Str.ofString "" ++ y
    rw [nil_cat, nil_cat]
theorem join_short {b : Str} {ws : List Str} (hb : b.length ≤ 5) (h5 : ∀ y ∈ ws, y.length ≤ 5) (hn : ws.length ≤ 6) : (Str.join b ws).length ≤ 60 := by
  have h1 := join_len b ws
  have h2 := sum_le5 h5
  split at h1
  · omega
  · have : ((b.length : Nat) : Int) * (((ws.length : Nat) : Int) - 1) ≤ 5 * 5 := by
      refine Int.mul_le_mul (by omega) (by omega) (by omega) (by omega)
    omega
section
variable {prog : Program} {w : World} {A : Around} {E : Value → Shared → Prop} {s : Shared} {D : Addr} {vs : List Value} {ws : List Str}
open PyProof.V in
theorem item_strs {value slice : Expr} {u : Tok} {x : Str} {i : Nat} {Q : Value → Shared → Prop} (hl : s.heap.IsList D vs.toArray) (hi : StrsAre vs ws) (hx : ws[i]? = some x) (hb : i < 2 ^ 62) (h : ∀ t, Q (.str x t) s)
    (hs : subscripted slice false (.ref D) (.int ((i : Nat) : Int) u) = operate [.ref D, .int ((i : Nat) : Int) u] (getItem (.ref D) (.int ((i : Nat) : Int) u)) := by with_unfolding_all rfl) :
    wpAny (model prog w) A (subscriptTail value slice (.ref D) (.int ((i : Nat) : Int) u)) Q E s := by
  have hl1 : i < ws.length := (List.getElem?_eq_some_iff.mp hx).1
  have hvl : vs.length = ws.length := hi.length
  obtain ⟨t, ht⟩ := sa_get hi hx
  refine tail_any hl.typeIs slot_list_getitem.lookup (wpAny_getItem_list hl (Int.natCast_nonneg _) (by omega) (x := .str x t) (by simpa using ht) (h t)) hs
end
end Mine
end
section
open PySem PySem.W PyProof.Rows PySem.Calls PyProof.V PySem.Spec
set_option Elab.async false
namespace Mine
set_option pp.deepTerms false
set_option pp.maxSteps 3000
theorem len_flat (l : List Nat) : ∀ n : Nat, (List.replicate n l).flatten.length = n * l.length
  | 0 => by simp
  | n + 1 => by
    rw [List.replicate_succ, List.flatten_cons, List.length_append, len_flat l n, Nat.succ_mul]
    omega
theorem repl_len (b : Str) (n : Nat) : (repl b (n : Int)).length = n * b.length := by
  unfold repl
  rw [len_T, Int.toNat_natCast, len_flat, len_codes]
theorem join_repl (b : Str) (n : Nat) : Txt.join (Str.ofString "") (List.replicate n b) = repl b (n : Int) := by
  rw [← T_codes (Txt.join _ _), codes_join, List.map_replicate]
  unfold repl
  rw [Int.toNat_natCast]
theorem rep_fin {b : Str} {c : Int} {n : Nat} (h1 : 0 < c) (hn : (if 20 < c then 20 else c) = (n : Int)) (hor : c ≤ 20 ∨ b = Str.ofString "") :
    (20 < (repl b (n : Int)).length → RepIs b c .none) ∧ (¬ 20 < (repl b (n : Int)).length → ∀ t, RepIs b c (.str (repl b (n : Int)) t)) := by
  rw [repl_len]
  by_cases hb : b = Str.ofString ""
  · subst hb
    have e : (Str.ofString "").length = 0 := by decide
    refine ⟨fun h => ?_, fun _ t => ?_⟩
    · rw [e] at h
      omega
    · rw [RepIs, if_neg (fun z => z.2.1 rfl), repl_nil, repl_nil]
      exact ⟨t, rfl⟩
  · have hc : c ≤ 20 := hor.resolve_right hb
    rw [if_neg (by omega)] at hn
    subst hn
    have e : (20 < n * b.length) ↔ (20 : Int) < (b.length : Int) * (n : Int) := by
      rw [Nat.mul_comm, ← Int.natCast_mul]
      omega
    refine ⟨fun h => ?_, fun h t => ?_⟩
    · rw [RepIs, if_pos ⟨by omega, hb, e.mp h⟩]
    · rw [RepIs, if_neg (fun z => h (e.mpr z.2.2))]
      exact ⟨t, rfl⟩
theorem rep_big {b : Str} {c : Int} (h1 : 0 < c) (h2 : ¬ c ≤ 20) (hb : (b == Str.ofString "") = false) : RepIs b c .none := by
  have hl : 1 ≤ b.length := by
    have := List.length_pos_iff.mpr (ne_nil hb)
    rw [len_codes] at this
    exact this
  have h3 : c ≤ (b.length : Int) * c := by
    have := Int.mul_le_mul_of_nonneg_right (show (1 : Int) ≤ (b.length : Int) by exact_mod_cast hl) (show (0 : Int) ≤ c by omega)
    omega
  rw [RepIs, if_pos ⟨by omega, fun z => (by rw [z, beq_self_eq_true] at hb; cases hb), by omega⟩]
theorem rep_small {b : Str} {c : Int} {t : Tok} (h : ¬ 0 < c) : RepIs b c (.str (Str.ofString "") t) := by
  rw [RepIs, if_neg (by omega), repl_low (by omega)]
  exact ⟨t, rfl⟩
theorem rep_sum {b : Str} {n : Nat} (hb : b.length ≤ 5) : ((List.replicate n b).map (·.length)).sum ≤ 5 * n := by
  have := sum_le5 (ws := List.replicate n b) fun y hy => by rw [List.eq_of_mem_replicate hy]; exact hb
  rw [List.length_replicate] at this
  exact this
end Mine
end
section
open PySem PySem.W PyProof.Rows PySem.Calls PyProof.V PySem.Spec
set_option Elab.async false
namespace Mine
set_option pp.deepTerms false
set_option pp.maxSteps 3000
section
variable {prog : Program} {w : World} {A : Around} {E : Value → Shared → Prop} {s : Shared} {a b D : Addr} {Q : Value → Shared → Prop}
theorem reads_tup {h : Heap} {vs : List Value} {ds : List PyData} (ha : h.get? D = some (tup vs)) (hc : CarriedAll vs ds) : Reads h (.ref D) (.tuple ds) [] := .tuple ha rfl rfl (hc.reads h)
theorem ne_tup {us vs : List Value} {ds : List PyData} (ha : s.heap.get? a = some (tup us)) (hb : s.heap.get? b = some (tup vs)) (hu : CarriedAll us ds) (hv : CarriedAll vs ds) (hs : SeqAt.shaped (.tuple ds) = true) (he : PyData.eqv (.tuple ds) (.tuple ds) = true)
    (hn : A.units + 64 < cLine) (h : Q (.bool false) s) : wpAny (model prog w) A (compareOp .NotEq (.ref a) (.ref b)) Q E s :=
  ne_dataH (reads_tup ha hu) (reads_tup hb hv) hs hs hn (by rw [he]; exact h)
theorem ne_tup_strs {x y : Str} {t1 t2 t3 t4 : Tok} (ha : s.heap.get? a = some (tup [.str x t1, .str y t2])) (hb : s.heap.get? b = some (tup [.str x t3, .str y t4])) (lx : Low x) (ly : Low y)
    (hn : A.units + 64 < cLine) (h : Q (.bool false) s) : wpAny (model prog w) A (compareOp .NotEq (.ref a) (.ref b)) Q E s :=
  ne_tup (ds := [.str x, .str y]) ha hb (.cons (.str _ _) (.cons (.str _ _) .nil)) (.cons (.str _ _) (.cons (.str _ _) .nil)) (by simp [SeqAt.shaped, PyData.canLay0, PyData.depth, PyData.canLayAll0, PyData.depthAll, lx.ok, ly.ok]) (by simp [PyData.eqv, PyData.eqvAll]) hn h
theorem ne_tup_si {x : Str} {n : Int} {t1 t2 t3 t4 : Tok} (ha : s.heap.get? a = some (tup [.str x t1, .int n t2])) (hb : s.heap.get? b = some (tup [.str x t3, .int n t4])) (lx : Low x)
    (hn : A.units + 64 < cLine) (h : Q (.bool false) s) : wpAny (model prog w) A (compareOp .NotEq (.ref a) (.ref b)) Q E s :=
  ne_tup (ds := [.str x, .int n]) ha hb (.cons (.str _ _) (.cons (.int _ _) .nil)) (.cons (.str _ _) (.cons (.int _ _) .nil)) (by simp [SeqAt.shaped, PyData.canLay0, PyData.depth, PyData.canLayAll0, PyData.depthAll, lx.ok]) (by simp [PyData.eqv, PyData.eqvAll]) hn h
end
section
variable {prog : Program} {w : World} {A : Around} {E : Value → Shared → Prop} {s : Shared} {D : Addr}
open PyProof.V in
theorem item_tup {value slice : Expr} {u : Tok} {vs : List Value} {v : Value} {i : Nat} {Q : Value → Shared → Prop} (hl : s.heap.get? D = some (tup vs)) (hx : vs[i]? = some v) (hb : i < 2 ^ 62) (hn : vs.length < 2 ^ 62) (h : Q v s)
    (hs : subscripted slice false (.ref D) (.int ((i : Nat) : Int) u) = operate [.ref D, .int ((i : Nat) : Int) u] (getItem (.ref D) (.int ((i : Nat) : Int) u)) := by with_unfolding_all rfl) :
    wpAny (model prog w) A (subscriptTail value slice (.ref D) (.int ((i : Nat) : Int) u)) Q E s := by
  have ht : IsTup s.heap D vs.toArray := ⟨_, hl, rfl, _, rfl⟩
  have hl1 : i < vs.length := (List.getElem?_eq_some_iff.mp hx).1
  exact tail_any ht.typeIs slot_tuple_getitem.lookup (getItem_tuple ht (by simp) (by omega) (seqIndex_of (Int.natCast_nonneg _) (by simpa using hl1)) (x := v) (by simpa using hx) h) hs
end
theorem low_T {l : List Nat} (h : ∀ c ∈ l, c < 128) : Low (T l) := by
  intro c hc
  rw [codes_T] at hc
  exact h c hc
theorem ends_item {q0 q1 q2 q3 q4 q5 : Tok} {n : Nat} (h : n < 7) : ∃ v, [Value.none, .str (Str.ofString "") q0, .str (Str.ofString "\n") q1, .str (Str.ofString "7") q2, .str (Str.ofString " \n") q3, .str (Str.ofString "-7") q4, .str (Str.ofString "a") q5][n]? = some v ∧ (v = .none ∨ ∃ e t, v = .str e t ∧ e.length ≤ 5 ∧ Low e) := by
  have : n = 0 ∨ n = 1 ∨ n = 2 ∨ n = 3 ∨ n = 4 ∨ n = 5 ∨ n = 6 := by omega
  rcases this with rfl | rfl | rfl | rfl | rfl | rfl | rfl
  · exact ⟨_, rfl, .inl rfl⟩
  · exact ⟨_, rfl, .inr ⟨_, _, rfl, by decide, by unfold Low; decide⟩⟩
  · exact ⟨_, rfl, .inr ⟨_, _, rfl, by decide, by unfold Low; decide⟩⟩
  · exact ⟨_, rfl, .inr ⟨_, _, rfl, by decide, by unfold Low; decide⟩⟩
  · exact ⟨_, rfl, .inr ⟨_, _, rfl, by decide, by unfold Low; decide⟩⟩
  · exact ⟨_, rfl, .inr ⟨_, _, rfl, by decide, by unfold Low; decide⟩⟩
  · exact ⟨_, rfl, .inr ⟨_, _, rfl, by decide, by unfold Low; decide⟩⟩
end Mine
end
section
open PySem PySem.W PyProof.Rows PySem.Calls PyProof.V PySem.Spec
set_option Elab.async false
namespace Mine
set_option pp.deepTerms false
set_option pp.maxSteps 3000
section
variable {prog : Program} {w : World} {A : Around} {E : Value → Shared → Prop} {s₁ : Shared} {h₀ : Heap} {m : Str → Option Value} {news : List (Addr × Obj)}
/-- z = [x for x in text], in a frame of any kind -/
theorem signs_comp {env : Env} {elt : Expr} {x z : Str} {scope : Scope} {Q : Flow → Shared → Prop} {y : Str} {t : Tok}
    (hh : A.handled = none) (F : Fr h₀ env.locals s₁.heap m) (N : News h₀ env.locals s₁.heap news)
    (turn : ∀ C a v s₂ m₂ E', ItemKind.str.is a v → s₂.heap.Ns (compEnv scope C env).locals m₂ → m₂ x = some v → wpAny (model prog w) A (eval elt (compEnv scope C env)) (fun r s₃ => Carried r (.str a) ∧ Keeps s₂ s₃) E' s₂)
    (fin : ∀ D (ys : List Value) h' tk, Fr h₀ env.locals h' (fun q => if q = z then some (.ref D) else m q) → News h₀ env.locals h' news → h₀.get? D = none → h'.IsList D ys.toArray → NewPlain h' news D ys.toArray → StrsAre ys ((codesOf y).map ch) → Q .next { s₁ with heap := h', toks := tk })
    (hsz : y.length ≤ sizeLine) :
    wpAny (model prog w) A (pyIter (.str y t)) (CompPostA prog w A env scope x z [] elt Q) E s₁ := by
  unfold CompPostA
  refine wpAny_pyIter_str fun o St W hst => ?_
  have lt : env.locals < s₁.heap.objs.size := F.ns.lt
  refine ⟨ItemKind.str.lift fun _ => true, fun v r => ∃ a, ItemKind.str.is a v ∧ Carried r (.str a), s₁.heap.objs.size, [s₁.heap.objs.size], [s₁.heap.objs.size], y.cps.size, SignAt y, St, m, rfl, W A hh, hsz, hst, ?_, ?_, (F.push o).ns, ⟨?_, ?_⟩, ?_⟩
  · intro b hb
    show b < (s₁.heap.push o).objs.size
    rw [Heap.size_push, List.mem_singleton.mp hb]
    exact Nat.lt_succ_self _
  · intro hm
    exact Nat.lt_irrefl _ ((List.mem_singleton.mp hm) ▸ lt)
  · rintro C i v s₃ m₃ E' ⟨c, u, _, rfl⟩ hn hm _ _
    have ha : ItemKind.str.is ⟨#[c]⟩ (.str ⟨#[c]⟩ u) := ⟨u, rfl⟩
    rw [ItemKind.lift_is ha, List.forIn_nil]
    exact wpAny_pure ⟨rfl, _, _, rfl, fun _ _ e => e⟩
  · rintro C i v s₃ m₃ E' ⟨c, u, _, rfl⟩ hp' hn hm _ _
    have ha : ItemKind.str.is ⟨#[c]⟩ (.str ⟨#[c]⟩ u) := ⟨u, rfl⟩
    exact wpAny_mono (turn C _ _ s₃ m₃ E' ha hn hm) (fun r s₄ h₄ => ⟨⟨_, ha, h₄.1⟩, h₄.2⟩) fun _ _ e => e
  · intro D h' tk ys vs hnew hlD hplD hlen hP hF hn' hk
    have old : ∀ b o', s₁.heap.get? b = some o' → b ≠ env.locals → h'.get? b = some o' := fun b o' e hb => hk b o' hb (old_not_new e) (Heap.get?_push_of_some _ e)
    refine fin D ys.toList h' tk ⟨hn', fun b o' e => old b o' (F.keep b o' e) (Nat.ne_of_lt (Nat.lt_of_lt_of_le (Heap.lt_size e) F.above)), F.above⟩ (fun p hp => ⟨old _ _ (N p hp).1 (N p hp).2.1, (N p hp).2⟩) ?_ (by rw [Array.toArray_toList]; exact hlD)
      ⟨by rw [Array.toArray_toList]; exact hplD, fun p hp e => by rw [← e, Heap.get?_push_of_some _ (N p hp).1] at hnew; cases hnew⟩ (carried_signs ((areOf_signs hlen hP).paired (fun _ => true) PyData.str _ hF))
    cases e : h₀.get? D with
    | none => rfl
    | some o' => rw [Heap.get?_push_of_some _ (F.keep _ _ e)] at hnew; cases hnew
end
end Mine
end
section
open PySem PySem.W PyProof.Rows PySem.Calls PyProof.V PySem.Spec
set_option Elab.async false
namespace Mine
set_option pp.deepTerms false
set_option pp.maxSteps 3000
theorem sl_init (l : List Nat) : ((l.map ch).drop (kms_lo none (l.map ch).length)).take (kms_hi (some (-1)) (l.map ch).length - kms_lo none (l.map ch).length) = l.dropLast.map ch := by
  unfold kms_lo kms_hi
  dsimp only
  rw [if_pos (by decide), List.drop_zero, Nat.sub_zero, List.dropLast_eq_take, List.length_map, List.map_take]
  rfl
theorem sl_last (l : List Nat) : ((l.map ch).drop (kms_lo (some (-1)) (l.map ch).length)).take (kms_hi none (l.map ch).length - kms_lo (some (-1)) (l.map ch).length) = (l.drop (l.length - 1)).map ch := by
  unfold kms_lo kms_hi
  dsimp only
  rw [if_pos (by decide), List.length_map, ← List.map_drop, List.take_of_length_le]
  · rfl
  · rw [List.length_map, List.length_drop]
    exact Nat.le_refl _
theorem dropNl_mem {c : Nat} {l : List Nat} (h : c ∈ dropNl l) : c ∈ l := by
  unfold dropNl at h
  exact List.mem_reverse.mp ((List.dropWhile_sublist _).subset (List.mem_reverse.mp h))
theorem chompL_mem {c : Nat} {l e : List Nat} (h : c ∈ chompL l e) : c ∈ l := by
  unfold chompL at h
  split at h
  · exact dropNl_mem h
  · split at h
    · exact List.mem_of_mem_take h
    · exact h
end Mine
end
section
open PySem PySem.W PyProof.Rows PySem.Calls PyProof.V PySem.Spec
set_option Elab.async false
namespace Mine
set_option pp.deepTerms false
set_option pp.maxSteps 6000
section
local macro_rules | `(tactic| k_room) => `(tactic| ((try simp only [depth_under_make, depth_under_kw, depth_in1, depth_deeper, depth_caller]); omega))
local macro_rules | `(tactic| walk_at "execs cons") => `(tactic| ((with_reducible show wpAny _ _ (execs (Stmt.For _ _ _ _ _ :: _) _) _ _ _); refine hold ?_))
local macro_rules | `(tactic| walk_at "execs cons") => `(tactic| ((with_reducible show wpAny _ (callerA.deeper _) (execs (Stmt.If _ _ _ _ :: _) _) _ _ _); refine hold ?_))
local macro_rules | `(tactic| walk_at "execs cons") => `(tactic| ((with_reducible show wpAny _ (callerA.deeper _) (execs (Stmt.Assign _ (Expr.IfExp _ _ _ _) _ :: _) _) _ _ _); refine hold ?_))
local macro_rules | `(tactic| walk_at "call builtin:str.join") => `(tactic| ((with_reducible show wpAny _ (callerA.deeper _) _ _ _ _); refine hold ?_))
local macro_rules | `(tactic| walk_at "CompSrc") => `(tactic| ((with_reducible show LCg.CompSrc _ _ _ _ _ _ _ _ _ _ _ _ (Value.ref _) _); refine hold ?_))
local macro_rules | `(tactic| walk_at "call builtin:len") => `(tactic| (k_here; (with_reducible show wpAny _ _ (call (Value.builtin "len") [Value.ref _]) _ _ _); (refine len_strs (News.isList (by k_asm) (by first | exact .head _ | exact .tail _ (.head _) | exact .tail _ (.tail _ (.head _)) | exact .tail _ (.tail _ (.tail _ (.head _))) | exact .tail _ (.tail _ (.tail _ (.tail _ (.head _))))) ) (by assumption) (by omega) ?_)))
local macro_rules | `(tactic| walk_at "subscriptTail Name Name ref int") => `(tactic| (k_here; (refine item_strs (News.isList (by k_asm) (by first | exact .head _ | exact .tail _ (.head _) | exact .tail _ (.tail _ (.head _)) | exact .tail _ (.tail _ (.tail _ (.head _))) | exact .tail _ (.tail _ (.tail _ (.tail _ (.head _))))) ) (by assumption) (by assumption) (by omega) ?_); intro _))
local macro_rules | `(tactic| walk_at "subscriptTail Name Slice ref ref") => `(tactic| ((with_reducible show wpAny _ (callerA.deeper _) (subscriptTail (Expr.Name (Str.ofString "signs") _) _ _ _) _ _ _); refine hold ?_))
local macro_rules | `(tactic| walk_at "compareOp NotEq ref ref") => `(tactic| ((with_reducible show wpAny _ (callerA.deeper _) _ _ _ _); refine hold ?_))
local macro_rules | `(tactic| walk_at "subscriptTail Name BinOp ref int") => `(tactic| ((with_reducible show wpAny _ (callerA.deeper _) _ _ _ _); refine hold ?_))
local macro_rules | `(tactic| walk_at "call builtin:list.reverse") => `(tactic| ((with_reducible show wpAny _ (callerA.deeper _) _ _ _ _); refine hold ?_))
local macro_rules | `(tactic| walk_at "binaryOp Add ref ref") => `(tactic| refine hold ?_)
local macro_rules | `(tactic| walk_at "subscriptTail") => `(tactic| ((with_reducible show wpAny _ _ (subscriptTail (Expr.Call _ _ _ _) (Expr.Slice _ _ _ _) _ _) _ _ _); refine hold ?_))
local macro_rules | `(tactic| walk_at "call ref") => `(tactic| ((first
  | (with_reducible show wpAny _ _ (call (Value.ref 124) _) _ _ _) | (with_reducible show wpAny _ _ (call (Value.ref 129) _) _ _ _) | (with_reducible show wpAny _ _ (call (Value.ref 136) _) _ _ _) | (with_reducible show wpAny _ _ (call (Value.ref 143) _) _ _ _)
  | (with_reducible show wpAny _ _ (call (Value.ref 148) _) _ _ _) | (with_reducible show wpAny _ _ (call (Value.ref 60) _) _ _ _) | (with_reducible show wpAny _ _ (call (Value.ref 81) _) _ _ _) | (with_reducible show wpAny _ _ (call (Value.ref 88) _) _ _ _)); refine hold ?_))
set_option maxRecDepth 100000 in
set_option maxHeartbeats 16000000 in
theorem law_holds : PySem.Challenge.rw_nz0175_01.Holds := Mine.hd (by
  k_go0
  rename_i w s₀ s₁ mg mb G Y fa o pm doc ho hg KX X V GL T B TE TW wA wO M w9 w8 hcd ns hs hlay0 hL1 hr1 hl2 w6 w5 lv vs w2 hL ra w1 r0 hI hr hc1 hc2 K0 hD h₁ tk₁ F oc1 oc2 hleft hright N0 X0
  refine wpAny_mono (Q := Sealed fun f s' => f = .ret (.bool true) ∧ ∃ h tk m, s' = { s₁ with heap := h, toks := tk } ∧ Fr s₁.heap s₁.heap.objs.size h m) (E := fun _ _ => False) ?_ ?_ (fun _ _ z => z.elim)
  rotate_left
  · rintro f s' ⟨rfl, h, tk, m, rfl, FF⟩
    k_steps
  k_fold
  have F := fr_as (f' := fun y => if y = Str.ofString "script" then some (.ref lv) else none) F (fun y => rfl)
  clear G Y ho X V GL B TE TW M hcd hs hlay0 hL1 hr1 hl2 ra w1 r0 hr hD X0
  k_steps
  unfold Hold
  rename IntsAre _ (List.take 40 ns) => hs40
  rename_i sv wsv hx1 hC1 hL1' l1a hx2 Fa Na ga La hxa FGa Ba Xa Ta lr hxb Fb Nb l1b kFa kNa Tca kXa
  refine kba_turn (value' := PySem.Expr.Name (PySem.Str.ofString "_") ⟨0, 0, 0, 0⟩) (fun _ => rfl) ?_
  refine slice_ints (ws := [4,3,0,5,1,2,5,5,1,0,4,3,1,2,2,6]) (by k_asm) (by k_asm) (News.isList (by k_asm) (.head _)) (by l_ints) (.int _ _) .none (by rw [sizeLine_eq]; decide) ?_
  intro D2 us2 h2 F2 N2 l2 i2
  (try k_lt l2)
  k_steps
  unfold Hold
  refine kmk_add_ints (by k_asm) (by k_asm) (News.isList N2 (.tail _ (.tail _ (.head _)))) (News.isList N2 (.head _)) hs40 i2 ?_ (by
    rw [sizeLine_eq]
    simp only [List.length_take, List.length_drop, List.length_cons, List.length_nil]
    omega)
  intro la us3 h3 F3 N3 l3 i3
  (try k_lt l3)
  have h16 : 16 ≤ (List.take 40 ns ++ List.take (kms_hi none [4, 3, 0, 5, 1, 2, 5, 5, 1, 0, 4, 3, 1, 2, 2, 6].length - kms_lo (some ↑(List.take 40 ns).length) [4, 3, 0, 5, 1, 2, 5, 5, 1, 0, 4, 3, 1, 2, 2, 6].length) (List.drop (kms_lo (some ↑(List.take 40 ns).length) [4, 3, 0, 5, 1, 2, 5, 5, 1, 0, 4, 3, 1, 2, 2, 6].length) [4, 3, 0, 5, 1, 2, 5, 5, 1, 0, 4, 3, 1, 2, 2, 6])).length := by
    unfold kms_hi kms_lo
    simp only [List.length_append, List.length_take, List.length_drop, List.length_cons, List.length_nil]
    rw [if_neg (by omega)]
    omega
  have h64 : (List.take 40 ns ++ List.take (kms_hi none [4, 3, 0, 5, 1, 2, 5, 5, 1, 0, 4, 3, 1, 2, 2, 6].length - kms_lo (some ↑(List.take 40 ns).length) [4, 3, 0, 5, 1, 2, 5, 5, 1, 0, 4, 3, 1, 2, 2, 6].length) (List.drop (kms_lo (some ↑(List.take 40 ns).length) [4, 3, 0, 5, 1, 2, 5, 5, 1, 0, 4, 3, 1, 2, 2, 6].length) [4, 3, 0, 5, 1, 2, 5, 5, 1, 0, 4, 3, 1, 2, 2, 6])).length ≤ 64 := by
    unfold kms_hi kms_lo
    simp only [List.length_append, List.length_take, List.length_drop, List.length_cons, List.length_nil]
    rw [if_neg (by omega)]
    omega
  revert i3 h16 h64
  generalize (List.take 40 ns ++ _) = ps
  intro i3 h16 h64
  k_steps
  unfold Hold
  rename (_ = Data.cell (some (Value.ref _))) => dP
  rename_i pa _ l1p h4 oP F4 N4
  have hb0 : oc1.data = Data.cell none := hleft
  have N4 : News s₁.heap s₁.heap.objs.size h4 ([] ++ pen pa la 0 _ :: [(la, listOf us3.toArray 0), (s₁.heap.objs.size + 1 + 1, oc1), (s₁.heap.objs.size + 1, oP)]) := subN N4 (List.Sublist.subset (.cons_cons _ (.cons_cons _ (.cons _ (.cons _ (.cons _ (.cons_cons _ (.cons_cons _ .slnil))))))))
  have off : ∀ p ∈ [(la, listOf us3.toArray 0), (s₁.heap.objs.size + 1 + 1, oc1), (s₁.heap.objs.size + 1, oP)], p.1 ≠ pa := by
    simp only [List.forall_mem_cons]
    exact ⟨Nat.ne_of_lt l1p.1, Nat.ne_of_lt l1p.2.2.2.2.1, Nat.ne_of_lt l1p.2.2.2.2.2, by simp⟩
  have hcb : s₁.heap.objs.size + 1 + 1 < pa := l1p.2.2.2.2.1
  have hla : la < pa := l1p.1
  refine (draw_does (k := 0) (pre := []) (post := [(la, listOf us3.toArray 0), (s₁.heap.objs.size + 1 + 1, oc1), (s₁.heap.objs.size + 1, oP)]) (.head _) i3 h16 h64 off (by decide)).use (by exact rfl) (by exact rfl) (by exact rfl) (by exact rfl) (Nat.le_of_ble_eq_true rfl) (Nat.le_of_ble_eq_true rfl) (by exact K0) (by exact F4) (by exact KX) (by exact N4) (by exact T) ?_
  rintro v led' h5 tk5 ⟨_, t5, ⟨⟨j, t, rfl⟩, rfl⟩, rfl⟩ F5 N5
  rw [List.nil_append] at N5
  dsimp only
  k_steps
  unfold Hold
  have hlo : 0 ≤ j.fmod 7 := fmod_lo j (by decide)
  have hhi : j.fmod 7 < 7 := fmod_hi j (by decide)
  obtain ⟨n7, hn7⟩ := Int.eq_ofNat_of_zero_le hlo
  refine LCg.CompSrc.range (n := n7) (by rfl) (by k_asm) (by k_asm) (by assumption) (small_one (by omega) (by omega) (by omega) (by omega)) (by rw [hn7]; exact rangeSize_nat _ _) (by rw [sizeLine_eq]; omega) ?_
  intro gg
  refine comp_ind n7 (fun i ys news => ∃ k' t' ws, k' ≤ 1 + 6 * i ∧ news = pen pa la k' t' :: [(la, listOf us3.toArray 0), (s₁.heap.objs.size + 1 + 1, oc1), (s₁.heap.objs.size + 1, oP)] ∧ ys.length = i ∧ StrsAre ys ws ∧ ∀ x ∈ ws, x.length ≤ 5 ∧ Low x) ?_ ?_ n7 0 [] _ (by omega) ⟨1, t5, [], by omega, rfl, rfl, .nil, by simp⟩
  · rintro i ys news v I oI C oC D m₂ h₆ tk₆ E' hi7 ⟨k', t6, ws, hk6, rfl, hys, hws, hw5⟩ ⟨tv, rfl⟩ hC hx F₆ N₆ off₆ ne₆
    k_steps
    unfold Hold
    have off7 : ∀ p ∈ [(I, oI), (C, oC), (D, LCg.lst ys)] ++ [(la, listOf us3.toArray 0), (s₁.heap.objs.size + 1 + 1, oc1), (s₁.heap.objs.size + 1, oP)], p.1 ≠ pa := by
      have hp := off₆.mem (pen pa la k' t6) (by simp)
      simp only [List.cons_append, List.nil_append, List.forall_mem_cons] at off ⊢
      exact ⟨Ne.symm hp.1, Ne.symm hp.2.1, Ne.symm hp.2.2, off⟩
    refine (word_does (k := k') (tk := t6) (la := la) (n := 0) (pre := [(I, oI), (C, oC), (D, LCg.lst ys)]) (post := [(la, listOf us3.toArray 0), (s₁.heap.objs.size + 1 + 1, oc1), (s₁.heap.objs.size + 1, oP)]) (List.mem_append_right _ (.head _)) i3 h16 h64 off7 (by omega)).use (by exact rfl) (by exact rfl) (by exact rfl) (by exact rfl) (Nat.le_of_ble_eq_true rfl) (Nat.le_of_ble_eq_true rfl) (by exact K0) (by k_asm) (by exact KX) (by k_asm) (by exact T) ?_
    rintro v led' h₇ tk₇ ⟨k7, t7, ⟨⟨x, tx, rfl, hx5, hxl⟩, hk7⟩, rfl⟩ F₇ N₇
    dsimp only
    k_steps
    refine LCg.CompEnd.intro (by assumption) (by assumption) (pen pa la k7 t7 :: [(la, listOf us3.toArray 0), (s₁.heap.objs.size + 1 + 1, oc1), (s₁.heap.objs.size + 1, oP)]) ?_ ?_ trivial ?_
    · intro p hp
      simpa using hp
    · exact off₆
    · exact ⟨k7, t7, ws ++ [x], by omega, rfl, by simp [hys], hws.append' (.cons _ _ .nil), by
        intro z hz
        rcases List.mem_append.mp hz with hz | hz
        · exact hw5 z hz
        · rw [List.mem_singleton.mp hz]; exact ⟨hx5, hxl⟩⟩
  · rintro ys news ⟨k6, t6, ws, hk6, rfl, hys, hws, hw5⟩
    k_steps
    unfold Hold
    rename_i wl h8 tk8 F8 N8 o8
    have off8 : ∀ p ∈ [(wl, LCg.lst ys)] ++ [(la, listOf us3.toArray 0), (s₁.heap.objs.size + 1 + 1, oc1), (s₁.heap.objs.size + 1, oP)], p.1 ≠ pa := by
      simp only [List.cons_append, List.nil_append, List.forall_mem_cons] at off ⊢
      exact ⟨Ne.symm o8.1, off⟩
    refine (word_does (k := k6) (tk := t6) (la := la) (n := 0) (pre := [(wl, LCg.lst ys)]) (post := [(la, listOf us3.toArray 0), (s₁.heap.objs.size + 1 + 1, oc1), (s₁.heap.objs.size + 1, oP)]) (List.mem_append_right _ (.head _)) i3 h16 h64 off8 (by omega)).use (by exact rfl) (by exact rfl) (by exact rfl) (by exact rfl) (Nat.le_of_ble_eq_true rfl) (Nat.le_of_ble_eq_true rfl) (by exact K0) (by exact F8) (by exact KX) (by exact N8) (by exact T) ?_
    rintro v led' h9 tk9 ⟨k9, t9, ⟨⟨b, tb, rfl, hb5, hbl⟩, hk9⟩, rfl⟩ F9 N9
    rw [List.cons_append, List.nil_append] at N9
    dsimp only
    k_steps
    unfold Hold
    rename Fr s₁.heap _ _ _ => F10
    rename News s₁.heap _ _ _ => N10
    rename_i oB dB tkB lim dx h8' l1x l2x g8 L8 h7 B8 X8 T8 tk8 h86 h85 h84 h83 h82 F82 N82 Tc8 kX8 h81 h10
    clear F82 N82 X8 T8 Tc8 kX8
    obtain ⟨hs, ts, us, N11⟩ := news_lim N10
    clear N10
    have h5 : ∀ y ∈ ws, y.length ≤ 5 := fun y hy => (hw5 y hy).1
    have hn6 : ws.length ≤ 6 := by rw [← hws.length, hys]; omega
    refine wpAny_execs_cons ?_
    refine For_range F10 (by exact rfl) (by exact rfl) (by exact rfl) ?_
    k_steps
    rename Fr _ _ _ _ => F12
    rename News _ _ _ _ => N12
    have F12 := fr_set (v' := some (.str (Str.join b (ws.take 0)) _)) (f' := fun y => if y = Str.ofString "place" then none else if y = Str.ofString "limits" then some (.ref lim) else if y = Str.ofString "words" then some (.ref wl) else if y = Str.ofString "s" then some (.ref sv) else if y = Str.ofString "script" then some (.ref lv) else none) F12 rfl (fun y hy => by
      by_cases h2 : y = Str.ofString "place"
      · rw [if_pos h2, h2]; rfl
      · rw [if_neg h2])
    refine ⟨_, ws.length, _, _, _, _, _, fun i m' news' => news' = [(lim, instObj 106 dx), (dx, limD hs ts us), (wl, LCg.lst ys), pen pa la k9 t9, (la, listOf us3.toArray 0), (s₁.heap.objs.size + 1 + 1, oB), (s₁.heap.objs.size + 1, oP)] ∧ ∃ vl vd, (m' = fun y => if y = Str.ofString "due" then vd else if y = Str.ofString "place" then vl else if y = Str.ofString "limits" then some (.ref lim) else if y = Str.ofString "words" then some (.ref wl) else if y = Str.ofString "s" then some (.ref sv) else if y = Str.ofString "script" then some (.ref lv) else none) ∧ ∃ tz, vd = some (.str (Str.join b (ws.take i)) tz), rfl, by assumption, small_one (by omega) (by omega) (by omega) (by omega), rangeSize_nat _ _, F12, N12, ⟨rfl, none, _, rfl, _, rfl⟩, ?_, ?_⟩
    · rintro i tv I oI m₁ news₁ hh tkh hi' ⟨rfl, vl, _, rfl, tz, rfl⟩ offI F₁ N₁
      obtain ⟨y, hy⟩ : ∃ y, ws[i]? = some y := ⟨ws[i], List.getElem?_eq_getElem hi'⟩
      have hy5 : y.length ≤ 5 := h5 y (List.mem_of_getElem? hy)
      have hjt := join_take b hy
      have hjl : (Str.join b (ws.take i)).length ≤ 60 := join_short hb5 (fun z hz => h5 z (List.mem_of_mem_take hz)) (by rw [List.length_take]; omega)
      (try dsimp only at F₁ N₁ ⊢)
      k_steps
      all_goals
        unfold TurnEnd
        dsimp only
        refine ⟨_, _, _, _, rfl, fr_set (by assumption) rfl ?_, by assumption, offI, rfl, some (.int ((i : Nat) : Int) tv), _, rfl, ?_⟩
        · intro z hz
          by_cases h2 : z = Str.ofString "place"
          · rw [if_pos h2, if_pos h2]
          · rw [if_neg h2, if_neg hz, if_neg h2, if_neg h2]
        · exact ⟨_, by first | rw [hjt, if_pos (by omega)] | rw [hjt, if_neg (by omega)]⟩
    · rintro h13 tk13 m13 news13 F13 N13 ⟨rfl, vl, _, rfl, tz, rfl⟩
      have hjl : (Str.join b ws).length ≤ 60 := join_short hb5 h5 hn6
      dsimp only at F13 N13 ⊢
      rw [List.take_length] at F13
      k_steps
      unfold Hold
      refine wpAny_execs_cons ?_
      refine wpAny_mono (Q := Sealed fun f s' => f = .next ∧ ∃ h tk, s' = { s₁ with heap := h, toks := tk } ∧ Fr s₁.heap s₁.heap.objs.size h (fun y => if y = Str.ofString "due" then some (.str (Str.join b ws) tz) else if y = Str.ofString "place" then vl else if y = Str.ofString "limits" then some (.ref lim) else if y = Str.ofString "words" then some (.ref wl) else if y = Str.ofString "s" then some (.ref sv) else if y = Str.ofString "script" then some (.ref lv) else none) ∧ News s₁.heap s₁.heap.objs.size h [(lim, instObj 106 dx), (dx, limD hs ts us), (wl, LCg.lst ys), pen pa la k9 t9, (la, listOf us3.toArray 0), (s₁.heap.objs.size + 1 + 1, oB), (s₁.heap.objs.size + 1, oP)]) ?_ ?_ (fun _ _ e => e)
      · k_steps
        unfold Hold
        refine (join_does (k := ys.length) (ws := ws) hb5 hws hn6 h5 (.head _)).use (by exact rfl) (by exact rfl) (by exact rfl) (by exact rfl) (Nat.le_of_ble_eq_true rfl) (Nat.le_of_ble_eq_true rfl) (by exact K0) (by exact F13) (by exact KX) (by exact N13) (by exact T) ?_
        rintro v led' h14 tk14 ⟨hv, rfl⟩ F14 N14
        unfold JoinIs at hv
        split at hv
        · subst hv
          dsimp only
          k_steps
          unfold Sealed
          exact ⟨rfl, _, _, rfl, F14, N14⟩
        · obtain ⟨tv, rfl⟩ := hv
          dsimp only
          k_steps
          · rename (_ != _) = true => hc
            rw [bne_self_eq_false] at hc
            cases hc
          · unfold Sealed
            exact ⟨rfl, _, _, rfl, F14, N14⟩
      · rintro f s' ⟨rfl, h15, tk15, rfl, F15, N15⟩
        dsimp only
        k_steps
        unfold Hold
        have offL : ∀ p ∈ [(lim, instObj 106 dx), (dx, limD hs ts us), (wl, LCg.lst ys)] ++ [(la, listOf us3.toArray 0), (s₁.heap.objs.size + 1 + 1, oB), (s₁.heap.objs.size + 1, oP)], p.1 ≠ pa := by
          simp only [List.cons_append, List.nil_append, List.forall_mem_cons] at off ⊢
          exact ⟨Ne.symm (Nat.ne_of_lt (Nat.lt_trans l1x.2.1 l2x)), Ne.symm (Nat.ne_of_lt l1x.2.1), Ne.symm o8.1, off⟩
        refine (draw_does (k := k9) (tk := t9) (la := la) (n := 0) (pre := [(lim, instObj 106 dx), (dx, limD hs ts us), (wl, LCg.lst ys)]) (post := [(la, listOf us3.toArray 0), (s₁.heap.objs.size + 1 + 1, oB), (s₁.heap.objs.size + 1, oP)]) (List.mem_append_right _ (.head _)) i3 h16 h64 offL (by omega)).use (by exact rfl) (by exact rfl) (by exact rfl) (by exact rfl) (Nat.le_of_ble_eq_true rfl) (Nat.le_of_ble_eq_true rfl) (by exact K0) (by exact F15) (by exact KX) (by exact N15) (by exact T) ?_
        rintro v led' h17 tk17 ⟨_, t10, ⟨⟨c, tc, rfl⟩, rfl⟩, rfl⟩ F17 N17
        rw [List.cons_append, List.cons_append, List.cons_append, List.nil_append] at N17
        dsimp only
        k_steps
        unfold Hold
        refine wpAny_execs_cons ?_
        refine wpAny_mono (Q := Sealed fun f s' => f = .next ∧ ∃ h tk d1, s' = { s₁ with heap := h, toks := tk } ∧ (c < 1 → ∃ t, d1 = .str (Str.ofString "") t) ∧ (¬ c < 1 → d1 = .none) ∧ Fr s₁.heap s₁.heap.objs.size h (fun y => if y = Str.ofString "due" then some d1 else if y = Str.ofString "count" then some (.int c tc) else if y = Str.ofString "place" then vl else if y = Str.ofString "limits" then some (.ref lim) else if y = Str.ofString "words" then some (.ref wl) else if y = Str.ofString "s" then some (.ref sv) else if y = Str.ofString "script" then some (.ref lv) else none) ∧ News s₁.heap s₁.heap.objs.size h [(lim, instObj 106 dx), (dx, limD hs ts us), (wl, LCg.lst ys), pen pa la (k9 + 1) t10, (la, listOf us3.toArray 0), (s₁.heap.objs.size + 1 + 1, oB), (s₁.heap.objs.size + 1, oP)]) ?_ ?_ (fun _ _ e => e)
        · k_steps
          all_goals
            unfold Sealed
            refine ⟨rfl, _, _, _, rfl, ?_, ?_, fr_set (by assumption) rfl ?_, by assumption⟩
            · intro hc
              first | exact ⟨_, rfl⟩ | exact absurd hc (by assumption)
            · intro hc
              first | rfl | exact absurd (by assumption) hc
            · intro z hz
              by_cases h2 : z = Str.ofString "count"
              · rw [if_pos h2, if_pos h2]
              · rw [if_neg h2, if_neg hz, if_neg h2]
        · rintro f s' ⟨rfl, h18, tk18, d1, rfl, hd1, hd2, F18, N18⟩
          dsimp only
          k_steps
          unfold Hold
          refine wpAny_execs_cons ?_
          refine wpAny_mono (Q := Sealed fun f s' => f = .next ∧ ∃ h tk dv, s' = { s₁ with heap := h, toks := tk } ∧ RepIs b c dv ∧ Fr s₁.heap s₁.heap.objs.size h (fun y => if y = Str.ofString "due" then some dv else if y = Str.ofString "count" then some (.int c tc) else if y = Str.ofString "place" then vl else if y = Str.ofString "limits" then some (.ref lim) else if y = Str.ofString "words" then some (.ref wl) else if y = Str.ofString "s" then some (.ref sv) else if y = Str.ofString "script" then some (.ref lv) else none) ∧ News s₁.heap s₁.heap.objs.size h [(lim, instObj 106 dx), (dx, limD hs ts us), (wl, LCg.lst ys), pen pa la (k9 + 1) t10, (la, listOf us3.toArray 0), (s₁.heap.objs.size + 1 + 1, oB), (s₁.heap.objs.size + 1, oP)]) ?_ ?_ (fun _ _ e => e)
          · k_steps
            · unfold Hold
              obtain ⟨n20, hn20⟩ := Int.eq_ofNat_of_zero_le (show 0 ≤ (if 20 < c then 20 else c) by split <;> omega)
              have hle : n20 ≤ 20 := by
                have h : (if 20 < c then 20 else c) ≤ 20 := by split <;> omega
                omega
              have hfin := rep_fin (b := b) (by assumption) hn20 (.inl (by assumption))
              refine LCg.CompSrc.range (n := n20) (by rfl) (by k_asm) (by k_asm) (by assumption) (small_one (by omega) (by omega) (by omega) (by omega)) (by rw [hn20]; exact rangeSize_nat _ _) (by rw [sizeLine_eq]; omega) ?_
              intro gg
              refine comp_ind n20 (fun i ys' news => news = [(lim, instObj 106 dx), (dx, limD hs ts us), (wl, LCg.lst ys), pen pa la (k9 + 1) t10, (la, listOf us3.toArray 0), (s₁.heap.objs.size + 1 + 1, oB), (s₁.heap.objs.size + 1, oP)] ∧ StrsAre ys' (List.replicate i b)) ?_ ?_ n20 0 [] _ (by omega) ⟨rfl, .nil⟩
              · rintro i ys2 news v I oI C oC D m₂ h₆ tk₆ E' hi7 ⟨rfl, hws2⟩ ⟨tv, rfl⟩ hC hx F₆ N₆ off₆ ne₆
                k_steps
                refine LCg.CompEnd.intro (by assumption) (by assumption) [(lim, instObj 106 dx), (dx, limD hs ts us), (wl, LCg.lst ys), pen pa la (k9 + 1) t10, (la, listOf us3.toArray 0), (s₁.heap.objs.size + 1 + 1, oB), (s₁.heap.objs.size + 1, oP)] ?_ off₆ trivial ⟨rfl, ?_⟩
                · intro p hp
                  simpa using hp
                · rw [List.replicate_succ']
                  exact hws2.append' (.cons _ _ .nil)
              · rintro ys2 news ⟨rfl, hws2⟩
                k_steps
                unfold Hold
                have hsum := rep_sum (n := n20) hb5
                refine join_listW (News.isList (by assumption) (by exact .head _)) hws2 (by decide) (by rw [List.length_replicate]; omega) ?_
                intro t6 k6
                rw [join_repl]
                have hrl : (repl b (n20 : Int)).length ≤ 100 := by
                  rw [repl_len]
                  exact Nat.le_trans (Nat.mul_le_mul hle hb5) (by decide)
                dsimp only
                k_steps
                unfold Hold
                refine wpAny_execs_cons ?_
                k_steps
                · unfold Sealed
                  exact ⟨rfl, _, _, _, rfl, hfin.1 (by omega), fr_set (by assumption) rfl (fun z hz => by rw [if_neg hz, if_neg hz]), subN (by assumption) fun p hp => skip0 hp⟩
                · unfold Sealed
                  exact ⟨rfl, _, _, _, rfl, hfin.2 (by omega) _, fr_set (by assumption) rfl (fun z hz => by rw [if_neg hz]), subN (by assumption) fun p hp => skip0 hp⟩
            · unfold Hold
              obtain ⟨n20, hn20⟩ := Int.eq_ofNat_of_zero_le (show 0 ≤ (if 20 < c then 20 else c) by split <;> omega)
              have hle : n20 ≤ 20 := by
                have h : (if 20 < c then 20 else c) ≤ 20 := by split <;> omega
                omega
              have hfin := rep_fin (b := b) (by assumption) hn20 (.inr (beq_iff_eq.mp (by assumption)))
              refine LCg.CompSrc.range (n := n20) (by rfl) (by k_asm) (by k_asm) (by assumption) (small_one (by omega) (by omega) (by omega) (by omega)) (by rw [hn20]; exact rangeSize_nat _ _) (by rw [sizeLine_eq]; omega) ?_
              intro gg
              refine comp_ind n20 (fun i ys' news => news = [(lim, instObj 106 dx), (dx, limD hs ts us), (wl, LCg.lst ys), pen pa la (k9 + 1) t10, (la, listOf us3.toArray 0), (s₁.heap.objs.size + 1 + 1, oB), (s₁.heap.objs.size + 1, oP)] ∧ StrsAre ys' (List.replicate i b)) ?_ ?_ n20 0 [] _ (by omega) ⟨rfl, .nil⟩
              · rintro i ys2 news v I oI C oC D m₂ h₆ tk₆ E' hi7 ⟨rfl, hws2⟩ ⟨tv, rfl⟩ hC hx F₆ N₆ off₆ ne₆
                k_steps
                refine LCg.CompEnd.intro (by assumption) (by assumption) [(lim, instObj 106 dx), (dx, limD hs ts us), (wl, LCg.lst ys), pen pa la (k9 + 1) t10, (la, listOf us3.toArray 0), (s₁.heap.objs.size + 1 + 1, oB), (s₁.heap.objs.size + 1, oP)] ?_ off₆ trivial ⟨rfl, ?_⟩
                · intro p hp
                  simpa using hp
                · rw [List.replicate_succ']
                  exact hws2.append' (.cons _ _ .nil)
              · rintro ys2 news ⟨rfl, hws2⟩
                k_steps
                unfold Hold
                have hsum := rep_sum (n := n20) hb5
                refine join_listW (News.isList (by assumption) (by exact .head _)) hws2 (by decide) (by rw [List.length_replicate]; omega) ?_
                intro t6 k6
                rw [join_repl]
                have hrl : (repl b (n20 : Int)).length ≤ 100 := by
                  rw [repl_len]
                  exact Nat.le_trans (Nat.mul_le_mul hle hb5) (by decide)
                dsimp only
                k_steps
                unfold Hold
                refine wpAny_execs_cons ?_
                k_steps
                · unfold Sealed
                  exact ⟨rfl, _, _, _, rfl, hfin.1 (by omega), fr_set (by assumption) rfl (fun z hz => by rw [if_neg hz, if_neg hz]), subN (by assumption) fun p hp => skip0 hp⟩
                · unfold Sealed
                  exact ⟨rfl, _, _, _, rfl, hfin.2 (by omega) _, fr_set (by assumption) rfl (fun z hz => by rw [if_neg hz]), subN (by assumption) fun p hp => skip0 hp⟩
            · unfold Sealed
              have e1 := hd2 (by omega)
              subst e1
              exact ⟨rfl, _, _, _, rfl, rep_big (by assumption) (by assumption) (by assumption), F18, N18⟩
            · unfold Sealed
              obtain ⟨t, rfl⟩ := hd1 (by omega)
              exact ⟨rfl, _, _, _, rfl, rep_small (by assumption), F18, N18⟩
          · rintro f s' ⟨rfl, h19, tk19, dv, rfl, hdv, F19, N19⟩
            dsimp only
            k_steps
            unfold Hold
            refine wpAny_execs_cons ?_
            refine wpAny_mono (Q := Sealed fun f s' => f = .next ∧ ∃ h tk, s' = { s₁ with heap := h, toks := tk } ∧ Fr s₁.heap s₁.heap.objs.size h (fun y => if y = Str.ofString "due" then some dv else if y = Str.ofString "count" then some (.int c tc) else if y = Str.ofString "place" then vl else if y = Str.ofString "limits" then some (.ref lim) else if y = Str.ofString "words" then some (.ref wl) else if y = Str.ofString "s" then some (.ref sv) else if y = Str.ofString "script" then some (.ref lv) else none) ∧ News s₁.heap s₁.heap.objs.size h [(lim, instObj 106 dx), (dx, limD hs ts us), (wl, LCg.lst ys), pen pa la (k9 + 1) t10, (la, listOf us3.toArray 0), (s₁.heap.objs.size + 1 + 1, oB), (s₁.heap.objs.size + 1, oP)]) ?_ ?_ (fun _ _ e => e)
            · k_steps
              unfold Hold
              refine (rep_does (by omega)).use (by exact rfl) (by exact rfl) (by exact rfl) (by exact rfl) (Nat.le_of_ble_eq_true rfl) (Nat.le_of_ble_eq_true rfl) (by exact K0) (by exact F19) (by exact KX) (by exact N19) (by exact T) ?_
              rintro v led' h20 tk20 ⟨hv, rfl⟩ F20 N20
              by_cases hq : 1 ≤ c ∧ b ≠ Str.ofString "" ∧ 20 < (b.length : Int) * c
              · rw [RepIs, if_pos hq] at hv hdv
                subst hv hdv
                dsimp only
                k_steps
                unfold Sealed
                exact ⟨rfl, _, _, rfl, F20, N20⟩
              · rw [RepIs, if_neg hq] at hv hdv
                obtain ⟨tv, rfl⟩ := hv
                obtain ⟨td, rfl⟩ := hdv
                dsimp only
                k_steps
                · rename (_ != _) = true => hc
                  rw [bne_self_eq_false] at hc
                  cases hc
                · unfold Sealed
                  exact ⟨rfl, _, _, rfl, F20, N20⟩
            · rintro f s' ⟨rfl, h21, tk21, rfl, F21, N21⟩
              dsimp only
              k_steps
              unfold Hold
              rename Fr s₁.heap _ _ _ => F22
              rename News s₁.heap _ _ _ => N22
              rename_i en hy1 len hy2
              obtain ⟨oE, q0, q1, q2, q3, q4, q5, hoE, N23⟩ : ∃ (oE : Obj) (q0 q1 q2 q3 q4 q5 : Tok), oE = tup [Value.none, Value.str (Str.ofString "") q0, Value.str (Str.ofString "\n") q1, Value.str (Str.ofString "7") q2, Value.str (Str.ofString " \n") q3, Value.str (Str.ofString "-7") q4, Value.str (Str.ofString "a") q5] ∧ News s₁.heap s₁.heap.objs.size hy2 [(en, oE), (lim, instObj 106 dx), (dx, limD hs ts us), (wl, LCg.lst ys), pen pa la (k9 + 1) t10, (la, listOf us3.toArray 0), (s₁.heap.objs.size + 1 + 1, oB), (s₁.heap.objs.size + 1, oP)] := ⟨_, _, _, _, _, _, _, rfl, N22⟩
              clear N22
              refine wpAny_execs_cons ?_
              refine For_list F22 (by exact rfl) (by exact rfl) (by exact rfl) ?_
              k_steps
              unfold Hold
              rename News s₁.heap _ _ _ => N24
              refine kmk_add_lit (zs := ys ++ [Value.str b tb]) (by k_asm) (by exact N24) (News.isList (by exact N24) (.tail _ (.tail _ (.tail _ (.tail _ (.head _)))))) (News.isList (by exact N24) (.head _)) rfl ?_ (by rw [sizeLine_eq]; simp; omega)
              intro wb h25 F25 N25 l25
              k_lt l25
              have hSW : StrsAre (ys ++ [Value.str b tb]) (ws ++ [b]) := hws.append' (.cons _ _ .nil)
              have F26 := fr_as (f' := fun y => if y = Str.ofString "ending" then none else if y = Str.ofString "signs" then none else if y = Str.ofString "word" then none else if y = Str.ofString "endings" then some (.ref en) else if y = Str.ofString "due" then some dv else if y = Str.ofString "count" then some (.int c tc) else if y = Str.ofString "place" then vl else if y = Str.ofString "limits" then some (.ref lim) else if y = Str.ofString "words" then some (.ref wl) else if y = Str.ofString "s" then some (.ref sv) else if y = Str.ofString "script" then some (.ref lv) else none) F25 (fun y => by
                by_cases e1 : y = Str.ofString "ending"
                · rw [if_pos e1, e1]; rfl
                · by_cases e2 : y = Str.ofString "signs"
                  · rw [if_neg e1, if_pos e2, e2]; rfl
                  · by_cases e3 : y = Str.ofString "word"
                    · rw [if_neg e1, if_neg e2, if_pos e3, e3]; rfl
                    · rw [if_neg e1, if_neg e2, if_neg e3])
              dsimp only
              refine ⟨wb, ys ++ [Value.str b tb], 0, _, _, fun i m' news' => ∃ k t vw vg ve, k ≤ k9 + 1 + i ∧ news' = [(wb, listOf (ys ++ [Value.str b tb]).toArray 0), (en, oE), (lim, instObj 106 dx), (dx, limD hs ts us), (wl, LCg.lst ys), pen pa la k t, (la, listOf us3.toArray 0), (s₁.heap.objs.size + 1 + 1, oB), (s₁.heap.objs.size + 1, oP)] ∧ m' = fun y => if y = Str.ofString "ending" then ve else if y = Str.ofString "signs" then vg else if y = Str.ofString "word" then vw else if y = Str.ofString "endings" then some (.ref en) else if y = Str.ofString "due" then some dv else if y = Str.ofString "count" then some (.int c tc) else if y = Str.ofString "place" then vl else if y = Str.ofString "limits" then some (.ref lim) else if y = Str.ofString "words" then some (.ref wl) else if y = Str.ofString "s" then some (.ref sv) else if y = Str.ofString "script" then some (.ref lv) else none, rfl, F26, subN N25 fun p hp => skip1 hp, ⟨k9 + 1, t10, none, none, none, by omega, rfl, rfl⟩, ?_, ?_, ?_⟩
              · rintro i m' news' ⟨k, t, vw, vg, ve, hk, rfl, rfl⟩
                exact .head _
              · rintro i v I oI m₁ news₁ hh tkh hi' hv ⟨k, t, vw, vg, ve, hk, rfl, rfl⟩ offI F₁ N₁
                obtain ⟨x, tx, hx, rfl⟩ := sa_at hSW hv
                obtain ⟨hx5, hxl⟩ : x.length ≤ 5 ∧ Low x := by
                  rcases List.mem_append.mp (List.mem_of_getElem? hx) with z | z
                  · exact hw5 x z
                  · rw [List.mem_singleton.mp z]; exact ⟨hb5, hbl⟩
                have hxc : (codesOf x).length ≤ 5 := by rw [len_codes]; exact hx5
                have hi8 : i < 8 := by simp at hi'; omega
                dsimp only at F₁ N₁ ⊢
                have F₁ : Fr s₁.heap s₁.heap.objs.size hh _ := F₁
                have N₁ : News s₁.heap s₁.heap.objs.size hh _ := N₁
                k_steps
                refine signs_comp (by exact rfl) (by exact F₁) (by exact N₁) ?_ ?_ (by rw [sizeLine_eq]; omega)
                · intro C a' v s₂ m₂ E' ha hn hm
                  obtain ⟨ta, rfl⟩ := ItemKind.str_is ha
                  (try (with_reducible refine wpAny_leafK ?_))
                  k_steps
                · intro D0 ys0 h31 tk31 F31 N31 hn0 hl0 np hS
                  obtain ⟨nX, N32⟩ := made_enters np F31 N31 hn0
                  have offD := made_off np
                  dsimp only
                  k_steps
                  unfold Hold
                  refine wpAny_execs_cons ?_
                  refine wpAny_mono (Q := Sealed fun f s' => f = .next ∧ ∃ h tk, s' = { s₁ with heap := h, toks := tk } ∧ Fr s₁.heap s₁.heap.objs.size h (fun y => if y = Str.ofString "signs" then some (Value.ref D0) else if y = Str.ofString "word" then some (Value.str x tx) else if y = Str.ofString "ending" then ve else if y = Str.ofString "signs" then vg else if y = Str.ofString "word" then vw else if y = Str.ofString "endings" then some (.ref en) else if y = Str.ofString "due" then some dv else if y = Str.ofString "count" then some (.int c tc) else if y = Str.ofString "place" then vl else if y = Str.ofString "limits" then some (.ref lim) else if y = Str.ofString "words" then some (.ref wl) else if y = Str.ofString "s" then some (.ref sv) else if y = Str.ofString "script" then some (.ref lv) else none) ∧ News s₁.heap s₁.heap.objs.size h ((D0, listOf ys0.toArray nX) :: (I, oI) :: [(wb, listOf (ys ++ [Value.str b tb]).toArray 0), (en, oE), (lim, instObj 106 dx), (dx, limD hs ts us), (wl, LCg.lst ys), pen pa la k t, (la, listOf us3.toArray 0), (s₁.heap.objs.size + 1 + 1, oB), (s₁.heap.objs.size + 1, oP)])) ?_ ?_ (fun _ _ e => e)
                  · k_steps
                    unfold Hold
                    refine (chop_does (by omega)).use (by exact rfl) (by exact rfl) (by exact rfl) (by exact rfl) (Nat.le_of_ble_eq_true rfl) (Nat.le_of_ble_eq_true rfl) (by exact K0) (by exact F31) (by exact KX) (by exact N32) (by exact T) ?_
                    rintro v led' h33 tk33 ⟨Dc, ca, cb, ta, tb', rfl, ⟨rfl, rfl⟩, rfl⟩ F33 N33
                    dsimp only
                    k_steps
                    unfold Hold
                    refine slice_strs (by k_asm) (by k_asm) (News.isList (by k_asm) (.tail _ (.head _))) hS IsPart.none (IsPart.int _ _) (by rw [sizeLine_eq, List.length_map]; omega) ?_
                    intro D2' us2' h34 F34 N34 l34 hS34
                    rw [sl_init] at hS34
                    k_steps
                    unfold Hold
                    refine join_listW (News.isList (by k_asm) (.head _)) hS34 (by decide) (by rw [sum_chs, List.length_map, List.length_dropLast]; omega) ?_
                    intro t6 k6
                    rw [join_chs]
                    dsimp only
                    k_steps
                    unfold Hold
                    refine slice_strs (by k_asm) (by k_asm) (News.isList (by k_asm) (.tail _ (.tail _ (.head _)))) hS (IsPart.int _ _) IsPart.none (by rw [sizeLine_eq, List.length_map]; omega) ?_
                    intro D3' us3' h35 F35 N35 l35 hS35
                    rw [sl_last] at hS35
                    k_steps
                    unfold Hold
                    refine join_listW (News.isList (by k_asm) (.head _)) hS35 (by decide) (by rw [sum_chs, List.length_map, List.length_drop]; omega) ?_
                    intro t7 k7
                    rw [join_chs]
                    dsimp only
                    k_steps
                    unfold Hold
                    rename News _ _ _ _ => N36
                    refine ne_tup_strs (N36 _ (.tail _ (.tail _ (.tail _ (.head _))))).1 (N36 _ (.head _)).1 (low_T fun c hc => hxl c (List.dropLast_subset _ hc)) (low_T fun c hc => hxl c (List.mem_of_mem_drop hc)) (Nat.le_of_ble_eq_true rfl) ?_
                    k_steps
                    unfold Sealed
                    exact ⟨rfl, _, _, rfl, by assumption, subN N36 fun p hp => .tail _ (.tail _ (.tail _ (.tail _ hp)))⟩
                  · rintro f s' ⟨rfl, h40, tk40, rfl, F40, N40⟩
                    dsimp only
                    k_steps
                    unfold Hold
                    have offW : ∀ p ∈ [(D0, listOf ys0.toArray nX), (I, oI), (wb, listOf (ys ++ [Value.str b tb]).toArray 0), (en, oE), (lim, instObj 106 dx), (dx, limD hs ts us), (wl, LCg.lst ys)] ++ [(la, listOf us3.toArray 0), (s₁.heap.objs.size + 1 + 1, oB), (s₁.heap.objs.size + 1, oP)], p.1 ≠ pa := by
                      simp only [List.cons_append, List.nil_append, List.forall_mem_cons] at off ⊢
                      exact ⟨Ne.symm (offD _ (.tail _ (.tail _ (.tail _ (.tail _ (.tail _ (.tail _ (.head _)))))))), Ne.symm (offI _ (.tail _ (.tail _ (.tail _ (.tail _ (.tail _ (.head _))))))), Ne.symm (Nat.ne_of_lt l25.2.2.2.2.2.1), Ne.symm (Nat.ne_of_lt len.2.2.2.1), Ne.symm (Nat.ne_of_lt (Nat.lt_trans l1x.2.1 l2x)), Ne.symm (Nat.ne_of_lt l1x.2.1), Ne.symm o8.1, off⟩
                    refine (draw_does (k := k) (tk := t) (la := la) (n := 0) (pre := [(D0, listOf ys0.toArray nX), (I, oI), (wb, listOf (ys ++ [Value.str b tb]).toArray 0), (en, oE), (lim, instObj 106 dx), (dx, limD hs ts us), (wl, LCg.lst ys)]) (post := [(la, listOf us3.toArray 0), (s₁.heap.objs.size + 1 + 1, oB), (s₁.heap.objs.size + 1, oP)]) (List.mem_append_right _ (.head _)) i3 h16 h64 offW (by omega)).use (by exact rfl) (by exact rfl) (by exact rfl) (by exact rfl) (Nat.le_of_ble_eq_true rfl) (Nat.le_of_ble_eq_true rfl) (by exact K0) (by exact F40) (by exact KX) (by exact N40) (by exact T) ?_
                    rintro v led' h41 tk41 ⟨_, t41, ⟨⟨j2, tj, rfl⟩, rfl⟩, rfl⟩ F41 N41
                    simp only [List.cons_append, List.nil_append] at N41
                    dsimp only
                    k_steps
                    unfold Hold
                    have hlo2 : 0 ≤ j2.fmod 7 := fmod_lo j2 (by decide)
                    have hhi2 : j2.fmod 7 < 7 := fmod_hi j2 (by decide)
                    obtain ⟨n2, hn2⟩ := Int.eq_ofNat_of_zero_le hlo2
                    rw [hn2]
                    obtain ⟨ve2, hve, hvE⟩ := ends_item (q0 := q0) (q1 := q1) (q2 := q2) (q3 := q3) (q4 := q4) (q5 := q5) (n := n2) (by omega)
                    refine item_tup (by rw [← hoE]; exact (N41 _ (.tail _ (.tail _ (.tail _ (.head _))))).1) hve (by omega) (Nat.le_of_ble_eq_true rfl) ?_
                    k_steps
                    unfold Hold
                    refine wpAny_execs_cons ?_
                    rename Fr _ _ _ _ => F42
                    rename News _ _ _ _ => N42
                    refine wpAny_mono (Q := Sealed fun f s' => f = .next ∧ ∃ h tk, s' = { s₁ with heap := h, toks := tk } ∧ Fr s₁.heap s₁.heap.objs.size h (fun y => if y = Str.ofString "ending" then some ve2 else if y = Str.ofString "signs" then some (Value.ref D0) else if y = Str.ofString "word" then some (Value.str x tx) else if y = Str.ofString "ending" then ve else if y = Str.ofString "signs" then vg else if y = Str.ofString "word" then vw else if y = Str.ofString "endings" then some (.ref en) else if y = Str.ofString "due" then some dv else if y = Str.ofString "count" then some (.int c tc) else if y = Str.ofString "place" then vl else if y = Str.ofString "limits" then some (.ref lim) else if y = Str.ofString "words" then some (.ref wl) else if y = Str.ofString "s" then some (.ref sv) else if y = Str.ofString "script" then some (.ref lv) else none) ∧ News s₁.heap s₁.heap.objs.size h ((D0, listOf ys0.toArray nX) :: (I, oI) :: [(wb, listOf (ys ++ [Value.str b tb]).toArray 0), (en, oE), (lim, instObj 106 dx), (dx, limD hs ts us), (wl, LCg.lst ys), pen pa la (k + 1) t41, (la, listOf us3.toArray 0), (s₁.heap.objs.size + 1 + 1, oB), (s₁.heap.objs.size + 1, oP)])) ?_ ?_ (fun _ _ e => e)
                    · rcases hvE with rfl | ⟨e, te, rfl, he5, hel⟩
                      · k_steps
                        unfold Hold
                        refine (chompN_does (by omega)).use (by exact rfl) (by exact rfl) (by exact rfl) (by exact rfl) (Nat.le_of_ble_eq_true rfl) (Nat.le_of_ble_eq_true rfl) (by exact K0) (by exact F42) (by exact KX) (by exact N42) (by exact T) ?_
                        rintro v led' h43 tk43 ⟨Dc, ta, tn, rfl, rfl⟩ F43 N43
                        dsimp only
                        k_steps
                        unfold Hold
                        refine (lchN_does (by omega)).use (by exact rfl) (by exact rfl) (by exact rfl) (by exact rfl) (Nat.le_of_ble_eq_true rfl) (Nat.le_of_ble_eq_true rfl) (by exact K0) (by exact F43) (by exact KX) (by exact N43) (by exact T) ?_
                        rintro v led' h44 tk44 ⟨Dd, ta2, tn2, rfl, rfl⟩ F44 N44
                        dsimp only
                        k_steps
                        unfold Hold
                        refine ne_tup_si (N44 _ (.tail _ (.head _))).1 (N44 _ (.head _)).1 hxl (Nat.le_of_ble_eq_true rfl) ?_
                        k_steps
                        unfold Sealed
                        exact ⟨rfl, _, _, rfl, F44, subN N44 fun p hp => .tail _ (.tail _ hp)⟩
                      · k_steps
                        unfold Hold
                        refine (chomp_does (by omega) (by omega)).use (by exact rfl) (by exact rfl) (by exact rfl) (by exact rfl) (Nat.le_of_ble_eq_true rfl) (Nat.le_of_ble_eq_true rfl) (by exact K0) (by exact F42) (by exact KX) (by exact N42) (by exact T) ?_
                        rintro v led' h43 tk43 ⟨Dc, a1, n1, ta, tn, rfl, ⟨rfl, rfl⟩, rfl⟩ F43 N43
                        dsimp only
                        k_steps
                        unfold Hold
                        refine (lch_does (by omega) (by omega) hxl hel).use (by exact rfl) (by exact rfl) (by exact rfl) (by exact rfl) (Nat.le_of_ble_eq_true rfl) (Nat.le_of_ble_eq_true rfl) (by exact K0) (by exact F43) (by exact KX) (by exact N43) (by exact T) ?_
                        rintro v led' h44 tk44 ⟨Dd, a2, n2', ta2, tn2, rfl, ⟨rfl, rfl⟩, rfl⟩ F44 N44
                        dsimp only
                        k_steps
                        unfold Hold
                        refine ne_tup_si (N44 _ (.tail _ (.head _))).1 (N44 _ (.head _)).1 (low_T fun c hc => hxl c (chompL_mem hc)) (Nat.le_of_ble_eq_true rfl) ?_
                        k_steps
                        unfold Sealed
                        exact ⟨rfl, _, _, rfl, F44, subN N44 fun p hp => .tail _ (.tail _ hp)⟩
                    · rintro f s' ⟨rfl, h46, tk46, rfl, F46, N46⟩
                      dsimp only
                      have offD2 : ∀ p ∈ (I, oI) :: [(wb, listOf (ys ++ [Value.str b tb]).toArray 0), (en, oE), (lim, instObj 106 dx), (dx, limD hs ts us), (wl, LCg.lst ys), pen pa la (k + 1) t41, (la, listOf us3.toArray 0), (s₁.heap.objs.size + 1 + 1, oB), (s₁.heap.objs.size + 1, oP)], p.1 ≠ D0 := by
                        simp only [List.forall_mem_cons] at offD ⊢
                        exact offD
                      have offI2 : ∀ p ∈ [(wb, listOf (ys ++ [Value.str b tb]).toArray 0), (en, oE), (lim, instObj 106 dx), (dx, limD hs ts us), (wl, LCg.lst ys), pen pa la (k + 1) t41, (la, listOf us3.toArray 0), (s₁.heap.objs.size + 1 + 1, oB), (s₁.heap.objs.size + 1, oP)], p.1 ≠ I := by
                        simp only [List.forall_mem_cons] at offI ⊢
                        exact offI
                      k_steps
                      unfold Hold
                      refine reverse_strs (by k_asm) (by exact N46) (Upd.head offD2) hS (by rw [sizeLine_eq, List.length_map]; omega) ?_
                      intro h47 F47 N47 hS47
                      rw [← List.map_reverse] at hS47
                      k_steps
                      unfold Hold
                      refine wpAny_execs_cons ?_
                      k_steps
                      unfold Hold
                      refine (rev_does (by omega)).use (by exact rfl) (by exact rfl) (by exact rfl) (by exact rfl) (Nat.le_of_ble_eq_true rfl) (Nat.le_of_ble_eq_true rfl) (by exact K0) (by exact F47) (by exact KX) (by exact N47) (by exact T) ?_
                      rintro v led' h48 tk48 ⟨rfl, t48, rfl⟩ F48 N48
                      dsimp only
                      k_steps
                      unfold Hold
                      refine join_listW (News.isList (by exact N48) (.head _)) hS47 (by decide) (by rw [sum_chs, List.length_map, List.length_reverse]; omega) ?_
                      intro t8 k8
                      rw [join_chs]
                      dsimp only
                      k_steps
                      · rename (_ != _) = true => hc
                        rw [bne_self_eq_false] at hc
                        cases hc
                      · unfold TurnEnd
                        dsimp only
                        refine ⟨_, _, _, _, rfl, fr_as (f' := fun y => if y = Str.ofString "ending" then some ve2 else if y = Str.ofString "signs" then some (Value.ref D0) else if y = Str.ofString "word" then some (Value.str x tx) else if y = Str.ofString "endings" then some (.ref en) else if y = Str.ofString "due" then some dv else if y = Str.ofString "count" then some (.int c tc) else if y = Str.ofString "place" then vl else if y = Str.ofString "limits" then some (.ref lim) else if y = Str.ofString "words" then some (.ref wl) else if y = Str.ofString "s" then some (.ref sv) else if y = Str.ofString "script" then some (.ref lv) else none) F48 ?_, subN N48 fun p hp => skip0 hp, offI2, k + 1, t41, some (Value.str x tx), some (Value.ref D0), some ve2, by omega, rfl, rfl⟩
                        intro z
                        by_cases e1 : z = Str.ofString "ending"
                        · simp only [if_pos e1]
                        · by_cases e2 : z = Str.ofString "signs"
                          · simp only [if_neg e1, if_pos e2]
                          · by_cases e3 : z = Str.ofString "word"
                            · simp only [if_neg e1, if_neg e2, if_pos e3]
                            · simp only [if_neg e1, if_neg e2, if_neg e3]
              · rintro h50 tk50 m50 news50 F50 N50 ⟨k, t, vw, vg, ve, hk, rfl, rfl⟩
                dsimp only at F50 N50 ⊢
                k_steps
                show Sealed (fun f s' => f = .ret (.bool true) ∧ ∃ h tk m, s' = { s₁ with heap := h, toks := tk } ∧ Fr s₁.heap s₁.heap.objs.size h m) _ _
                unfold Sealed
                exact ⟨rfl, h50, _, _, rfl, F50⟩
  )
end
end Mine
end
theorem PySem.Challenge.cw_nz0175_01_holds : PySem.Challenge.rw_nz0175_01.Holds := by
  exact Mine.law_holds
