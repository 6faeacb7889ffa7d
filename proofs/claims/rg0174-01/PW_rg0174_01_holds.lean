import PyProof.Rows.All
import Wide.All
import OpenK.AllK
import Wide.FinOn
import PySem.Challenge.RW_rg0174_01

set_option Elab.async false
set_option maxRecDepth 100000

section
open PySem PySem.W PyProof.Rows
set_option Elab.async false
set_option maxRecDepth 100000
set_option maxHeartbeats 8000000
namespace Mine
open_top hd for PySem.Challenge.rw_rg0174_01
end Mine
end

section
namespace Mine
open PySem PySem.W PyProof.Rows

/-- the list less its last (radix - 1)s -/
def strip (r : Int) (ns : List Int) : List Int := (ns.reverse.dropWhile (· == r - 1)).reverse
theorem split_last {ns : List Int} (h : ns ≠ []) : ∃ p x, ns = p ++ [x] := ⟨ns.dropLast, ns.getLast h, (List.dropLast_concat_getLast h).symm⟩
theorem strip_last (r : Int) (p : List Int) : strip r (p ++ [r - 1]) = strip r p := by simp [strip]
theorem strip_stop {r x : Int} (p : List Int) (h : x ≠ r - 1) : strip r (p ++ [x]) = p ++ [x] := by simp [strip, h]

/-- what carried gives -/
def carriedF (r : Int) (ns : List Int) : List Int × Int :=
  match strip r ns with
  | [] => ([], 1)
  | x :: l => ((x :: l).dropLast ++ [(x :: l).getLastD 0 + 1], 0)

/-- what rest_figures gives: fuel, then the loop's state -/
def rf (unit r : Int) : Nat → Int → Int → Int → List Int → List Int × Int
  | 0, _, _, _, found => (found, 0)
  | n + 1, rest, gap, below, found =>
    if rest < below then (found, 0) else
      let fig := Int.fdiv (rest * r) unit
      let rst := Int.fmod (rest * r) unit
      if (unit < 2 * rst ∨ (2 * rst = unit ∧ Int.fmod fig 2 = 1)) ∧ unit < rst + gap * r then carriedF r (found ++ [fig])
      else rf unit r n rst (gap * r) (below * r) (found ++ [fig])

theorem getD_last (p : List Int) (x : Int) : (p ++ [x]).getD (-1 + ((p ++ [x]).length : Int)).toNat 0 = x := by
  have e : (-1 + ((p ++ [x]).length : Int)).toNat = p.length := by rw [List.length_append, List.length_singleton]; omega
  rw [e]
  simp [List.getD]
theorem len_pos {ns : List Int} (h : 0 < (ns.length : Int)) : ns ≠ [] := by
  intro e; subst e; simp at h
theorem cs_turn {r : Int} {l ns : List Int} (h : strip r l = strip r ns) (h1 : l.length ≤ 1000) (h2 : 0 < (l.length : Int)) (h3 : l.getD (-1 + (l.length : Int)).toNat 0 = r - 1) :
    strip r l.dropLast = strip r ns ∧ l.dropLast.length ≤ 1000 := by
  obtain ⟨p, x, rfl⟩ := split_last (len_pos h2)
  rw [getD_last] at h3
  subst h3
  rw [strip_last] at h
  refine ⟨by simpa using h, ?_⟩
  simp at h1 ⊢; omega
theorem cs_falls {l : List Int} (h2 : 0 < (l.length : Int)) : l.dropLast.length < l.length := by
  rw [List.length_dropLast]; omega
theorem cs_none {r : Int} {l ns : List Int} (h : strip r l = strip r ns) (h2 : (l.length : Int) = 0) : carriedF r ns = ([], 1) := by
  have : l = [] := List.eq_nil_of_length_eq_zero (by omega)
  subst this
  unfold carriedF
  rw [← h]; rfl
theorem cs_some {r : Int} {l ns : List Int} (h : strip r l = strip r ns) (h2 : 0 < (l.length : Int)) (h3 : l.getD (-1 + (l.length : Int)).toNat 0 ≠ r - 1) :
    carriedF r ns = (l.dropLast ++ [l.getD (-1 + (l.length : Int)).toNat 0 + 1], 0) := by
  obtain ⟨p, x, rfl⟩ := split_last (len_pos h2)
  rw [getD_last] at h3
  rw [strip_stop p h3] at h
  unfold carriedF
  rw [← h, getD_last]
  have hl : (p ++ [x]).getLastD 0 = x := List.getLastD_concat
  have hd : (p ++ [x]).dropLast = p := List.dropLast_concat
  revert hl hd
  generalize hq : p ++ [x] = q
  intro hl hd
  cases q with
  | nil => simp at hq
  | cons y q => show ((y :: q).dropLast ++ [(y :: q).getLastD 0 + 1], (0 : Int)) = _; rw [hl, hd]
end Mine
end

section
namespace Mine
open PySem PySem.W PyProof.Rows

/-- what holds at each turn of rest_figures's loop; res: the whole loop's answer -/
structure RInv (unit r : Int) (res : List Int × Int) (rest gap below : Int) (found : List Int) : Prop where
  unit1 : unit ≤ 2 ^ 120
  rest0 : 0 ≤ rest
  rest1 : rest < unit
  below1 : (3 : Int) ^ found.length ≤ below
  len : found.length ≤ 100
  res : rf unit r (100 - found.length) rest gap below found = res

theorem pow_gt {k : Nat} (h : (3 : Int) ^ k < 2 ^ 120) : k < 99 := by
  false_or_by_contra
  rename_i hc
  have h0 : 3 ^ 99 ≤ 3 ^ k := Nat.pow_le_pow_right (by decide) (by omega : 99 ≤ k)
  have h1 : (3 : Int) ^ 99 ≤ 3 ^ k := by exact_mod_cast h0
  have h2 : (2 : Int) ^ 120 ≤ 3 ^ 99 := by decide
  omega
theorem RInv.lt {unit r : Int} {res : List Int × Int} {rest gap below : Int} {found : List Int} (h : RInv unit r res rest gap below found) (hc : below ≤ rest) : found.length < 99 := by
  have h1 := h.rest1
  have h2 := h.below1
  have h3 := h.unit1
  exact pow_gt (by omega)
theorem RInv.pos {unit r : Int} {res : List Int × Int} {rest gap below : Int} {found : List Int} (h : RInv unit r res rest gap below found) : 0 < below := by
  have h2 := h.below1
  have h3 : (0 : Int) < 3 ^ found.length := Int.pow_pos (by decide)
  omega
theorem RInv.falls {unit r : Int} {res : List Int × Int} {rest gap below : Int} {found : List Int} (h : RInv unit r res rest gap below found) (hr : 3 ≤ r) (hc : below ≤ rest) : (unit - below * r).toNat < (unit - below).toNat := by
  have h1 := h.rest1
  have h2 := h.pos
  have h3 : below * 3 ≤ below * r := Int.mul_le_mul_of_nonneg_left hr (by omega)
  omega
theorem RInv.step {unit r : Int} {res : List Int × Int} {rest gap below : Int} {found : List Int} (h : RInv unit r res rest gap below found) (hr : 3 ≤ r) (hc : below ≤ rest)
    (hn : ¬((unit < 2 * Int.fmod (rest * r) unit ∨ (2 * Int.fmod (rest * r) unit = unit ∧ Int.fmod (Int.fdiv (rest * r) unit) 2 = 1)) ∧ unit < Int.fmod (rest * r) unit + gap * r)) :
    RInv unit r res (Int.fmod (rest * r) unit) (gap * r) (below * r) (found ++ [Int.fdiv (rest * r) unit]) := by
  have hl := h.lt hc
  have h1 := h.rest1
  have h2 := h.pos
  have hp : 0 < unit := by omega
  have hres := h.res
  obtain ⟨k, hk⟩ : ∃ k, 100 - found.length = k + 1 := ⟨99 - found.length, by omega⟩
  have hk' : 100 - (found ++ [Int.fdiv (rest * r) unit]).length = k := by rw [List.length_append, List.length_singleton]; omega
  refine ⟨h.unit1, Int.fmod_nonneg_of_pos _ hp, Int.fmod_lt_of_pos _ hp, ?_, by rw [List.length_append, List.length_singleton]; omega, ?_⟩
  · rw [List.length_append, List.length_singleton, Int.pow_succ]
    calc (3 : Int) ^ found.length * 3 ≤ below * 3 := Int.mul_le_mul_of_nonneg_right h.below1 (by decide)
      _ ≤ below * r := Int.mul_le_mul_of_nonneg_left hr (by omega)
  · rw [hk'] at *
    rw [hk] at hres
    rw [← hres]
    rw [rf]
    rw [if_neg (by omega)]
    dsimp only
    rw [if_neg hn]
theorem RInv.steps {unit r : Int} {res : List Int × Int} {rest gap below : Int} {found : List Int} (h : RInv unit r res rest gap below found) (hr : 3 ≤ r) (hc : below ≤ rest)
    (hn : ¬((unit < 2 * Int.fmod (rest * r) unit ∨ (2 * Int.fmod (rest * r) unit = unit ∧ Int.fmod (Int.fdiv (rest * r) unit) 2 = 1)) ∧ unit < Int.fmod (rest * r) unit + gap * r)) :
    RInv unit r res (Int.fmod (rest * r) unit) (gap * r) (below * r) (found ++ [Int.fdiv (rest * r) unit]) ∧ (found ++ [Int.fdiv (rest * r) unit]).length ≤ 100 :=
  ⟨h.step hr hc hn, (h.step hr hc hn).len⟩
theorem RInv.init' {unit r : Int} {res : List Int × Int} {rest gap below : Int} (h : RInv unit r res rest gap below []) : RInv unit r res rest gap below [] ∧ ([] : List Int).length ≤ 100 := ⟨h, by decide⟩
theorem RInv.turn_out {unit r : Int} {res : List Int × Int} {rest gap below : Int} {found : List Int} (h : RInv unit r res rest gap below found) (hc : below ≤ rest)
    (hn : ((unit < 2 * Int.fmod (rest * r) unit ∨ (2 * Int.fmod (rest * r) unit = unit ∧ Int.fmod (Int.fdiv (rest * r) unit) 2 = 1)) ∧ unit < Int.fmod (rest * r) unit + gap * r)) :
    carriedF r (found ++ [Int.fdiv (rest * r) unit]) = res := by
  have hl := h.lt hc
  have hres := h.res
  obtain ⟨k, hk⟩ : ∃ k, 100 - found.length = k + 1 := ⟨99 - found.length, by omega⟩
  rw [hk, rf, if_neg (by omega)] at hres
  dsimp only at hres
  rw [if_pos hn] at hres
  exact hres
theorem RInv.done {unit r : Int} {res : List Int × Int} {rest gap below : Int} {found : List Int} (h : RInv unit r res rest gap below found) (hc : rest < below) : res = (found, 0) := by
  have hres := h.res
  cases hk : 100 - found.length with
  | zero => rw [hk, rf] at hres; exact hres.symm
  | succ k => rw [hk, rf, if_pos hc] at hres; exact hres.symm
theorem RInv.init {unit r rest below : Int} (hu : unit ≤ 2 ^ 120) (h0 : 0 ≤ rest) (h1 : rest < unit) (hb : 1 ≤ below) : RInv unit r (rf unit r 100 rest 2 below []) rest 2 below [] :=
  ⟨hu, h0, h1, by simpa using hb, by simp, by simp⟩
/-- a divisor that is small enough for the plain road of // -/
structure Small (unit : Int) : Prop where
  pos : 0 < unit
  log : unit.natAbs.log2 < 9000
theorem Small.of {unit : Int} (h0 : 0 < unit) (h1 : unit ≤ 2 ^ 120) : Small unit := by
  refine ⟨h0, ?_⟩
  have h2 : unit.natAbs < 2 ^ 121 := by omega
  have h3 := (Nat.log2_lt (by omega : unit.natAbs ≠ 0)).mpr h2
  omega
end Mine
end

section
open PySem PySem.W PyProof.Rows PySem.Calls
set_option Elab.async false
set_option maxRecDepth 100000
namespace Mine
def figCp (d : Int) : Nat := if d < 10 then 48 + d.toNat else 87 + d.toNat
def figS (d : Int) : Str := ⟨#[figCp d]⟩
def txtF (ds : List Int) : Str := ⟨(48 :: 46 :: ds.map figCp).toArray⟩
abbrev FIG : Str := Str.ofString "0123456789abcdefghijklmnopqrstuvwxyz"
theorem fig_at : ∀ j, j < 36 → Txt.item FIG ((j : Nat) : Int) = figS ((j : Nat) : Int) := by decide +kernel
theorem fig_item_eq {k : Int} (h0 : 0 ≤ k) (h1 : k < 36) : Txt.item FIG k = figS k := by
  have h := fig_at k.toNat (by omega)
  rw [Int.toNat_of_nonneg h0] at h
  exact h
theorem empty_app (d : Str) : Str.ofString "" ++ d = d := by
  have e : Str.ofString "" = Str.empty := by decide +kernel
  rw [e]; exact KT.empty_app d
theorem join_cps (ds : List Int) : (Txt.join (Str.ofString "") (ds.map figS)) = ⟨(ds.map figCp).toArray⟩ := by
  show Builtin.Str.glued (Str.ofString "") (ds.map figS) = _
  rw [StrLaws.glued_eq_join]
  induction ds with
  | nil => rfl
  | cons d r ih =>
    cases r with
    | nil => rfl
    | cons e r =>
      show figS d ++ Str.ofString "" ++ Str.join (Str.ofString "") ((e :: r).map figS) = _
      rw [ih, Str.append_assoc, empty_app]
      apply congrArg Str.mk
      show (figS d).cps ++ _ = _
      apply Array.toList_inj.mp
      simp [figS]
theorem txt_eq (ds : List Int) : Str.ofString "" ++ Str.ofString "0" ++ Str.ofString "." ++ (⟨(ds.map figCp).toArray⟩ : Str) = txtF ds := by
  rw [empty_app, show Str.ofString "0" ++ Str.ofString "." = (⟨#[48, 46]⟩ : Str) from by decide +kernel]
  apply congrArg Str.mk
  apply Array.toList_inj.mp
  show (#[48, 46] ++ (ds.map figCp).toArray).toList = _
  simp
theorem txt_eq0 (ds : List Int) : Str.ofString "0" ++ Str.ofString "." ++ (⟨(ds.map figCp).toArray⟩ : Str) = txtF ds := by
  have h := txt_eq ds
  rwa [empty_app] at h
section
variable {prog : Program} {w : World} {A : Around} {E : Value → Shared → Prop} {s : Shared} {value slice : PySem.Expr} {t u : Tok} {k : Int} {Q : Value → Shared → Prop}
theorem fig_item (h0 : 0 ≤ k) (h1 : k < 36) (h : Q (.str (figS k) s.toks) { s with toks := s.toks + 1 })
    (hs : subscripted slice false (.str FIG t) (.int k u) = operate [.str FIG t, .int k u] (getItem (.str FIG t) (.int k u)) := by with_unfolding_all rfl)
    (ht : ∀ r, letTemporaryGo value (.str FIG t) r = pure () := by intro _; with_unfolding_all rfl) :
    wpAny (model prog w) A (subscriptTail value slice (.str FIG t) (.int k u)) Q E s :=
  KXi.item (n := 36) (by decide +kernel) (by omega) (by omega) (by decide) (fun _ => by rw [fig_item_eq h0 h1]; exact h) hs ht
theorem join_figs {D : Addr} {ys : List Value} {ds : List Int} (hl : s.heap.IsList D ys.toArray) (hc : CarriedAll ys (ds.map fun a => PyData.str (figS a))) (hn : ds.length ≤ 100)
    (h : ∀ t' k, Q (.str ⟨(ds.map figCp).toArray⟩ t') { s with toks := k }) :
    wpAny (model prog w) A (call (.builtin "str.join") [.str (Str.ofString "") t, .ref D]) Q E s :=
  KT.join_1 hl hc (fun _ _ => rfl) (by omega) fun t' k _ => by rw [join_cps]; exact h t' k
end
end Mine
end

section
open PySem PySem.W PyProof.Rows PySem.Calls
set_option Elab.async false
set_option maxRecDepth 100000
namespace Mine
def figT (ds : List Int) : Str := ⟨(ds.map figCp).toArray⟩
abbrev Figs (ds : List Int) : Prop := ∀ d ∈ ds, 0 ≤ d ∧ d < 36

theorem figCp_ne {d : Int} (h0 : 0 ≤ d) (h1 : d < 36) : figCp d ≠ 46 := by
  unfold figCp; split <;> omega
theorem figT_free {ds : List Int} (h : Figs ds) : 46 ∉ ds.map figCp := by
  intro hm
  obtain ⟨d, hd, e⟩ := List.mem_map.mp hm
  exact figCp_ne (h d hd).1 (h d hd).2 e
theorem str_of_list {a : Str} {l : List Nat} (h : a.cps.toList = l) : a = ⟨l.toArray⟩ := by
  cases a with
  | mk c => show Str.mk c = _; congr 1; apply Array.toList_inj.mp; simpa using h
theorem join_two (y a b : Str) (r : List Str) : Str.join y (a :: b :: r) = a ++ y ++ Str.join y (b :: r) := rfl
theorem split_txt {ds : List Int} (h : Figs ds) : Txt.split (txtF ds) (Str.ofString ".") = [Str.ofString "0", figT ds] := by
  have ed : Str.ofString "." = (⟨#[46]⟩ : Str) := by decide +kernel
  rw [ed]
  have hj := StrLaws.join_split (txtF ds) ⟨#[46]⟩
  have hf := StrLaws.split_free (txtF ds) 46
  have hx : (txtF ds).cps.toList = 48 :: 46 :: ds.map figCp := by simp [txtF]
  have hn := figT_free h
  generalize Txt.split (txtF ds) ⟨#[46]⟩ = l at hj hf
  rw [← hj] at hx
  cases l with
  | nil => simp [Str.join] at hx; exact absurd hx (by rw [show Str.empty.cps.toList = [] from rfl]; simp)
  | cons a l =>
    have ha := hf a (.head _)
    cases l with
    | nil =>
      have hx' : a.cps.toList = 48 :: 46 :: ds.map figCp := hx
      rw [hx'] at ha
      exact absurd (by simp) ha
    | cons b l =>
      have hb := hf b (.tail _ (.head _))
      rw [join_two] at hx
      have hx2 : a.cps.toList ++ 46 :: (Str.join ⟨#[46]⟩ (b :: l)).cps.toList = 48 :: 46 :: ds.map figCp := by
        rw [KT.app_list, KT.app_list] at hx
        simpa using hx
      have hal : a.cps.toList = [48] := by
        cases hq : a.cps.toList with
        | nil => rw [hq] at hx2; simp at hx2
        | cons c q =>
          rw [hq] at hx2 ha
          cases q with
          | nil => simp at hx2; rw [hx2.1]
          | cons c2 q =>
            simp at hx2 ha
            omega
      rw [hal] at hx2
      have hx3 : (Str.join ⟨#[46]⟩ (b :: l)).cps.toList = ds.map figCp := by simpa using hx2
      cases l with
      | nil =>
        have hb2 : b.cps.toList = ds.map figCp := hx3
        rw [str_of_list hal, str_of_list hb2]
        show _ = [Str.ofString "0", figT ds]
        rw [show Str.ofString "0" = (⟨[48].toArray⟩ : Str) from by decide +kernel]
        rfl
      | cons c l =>
        rw [join_two, KT.app_list, KT.app_list] at hx3
        exfalso
        apply hn
        rw [← hx3]
        simp

/-- the code of a figure, as the loop over the text tells it -/
theorem codes_fig (ds : List Int) : KStt.codes (figT ds) = ds.map (fun d => ((figCp d : Nat) : Int)) := by
  show ((ds.map figCp).toArray.toList.map fun (c : Nat) => (c : Int)) = _
  simp
def valF (r : Int) (ds : List Int) : Int := ds.foldl (fun a d => a * r + d) 0
theorem find_fig : ∀ j, j < 36 → Txt.find FIG ⟨#[figCp ((j : Nat) : Int)]⟩ = ((j : Nat) : Int) := by decide +kernel
theorem find_fig' {d : Int} (h0 : 0 ≤ d) (h1 : d < 36) : Txt.find FIG ⟨#[figCp d]⟩ = d := by
  have h := find_fig d.toNat (by omega)
  rw [Int.toNat_of_nonneg h0] at h
  exact h
/-- the law's loop: what is read of the figures so far -/
structure WInv (r : Int) (ds pre : List Int) (whole unit : Int) : Prop where
  ex : ∃ p q, ds = p ++ q ∧ pre = p.map (fun d => ((figCp d : Nat) : Int)) ∧ whole = valF r p ∧ unit = r ^ p.length
theorem WInv.init (r : Int) (ds : List Int) : WInv r ds [] 0 1 := ⟨[], ds, rfl, rfl, rfl, by simp⟩
theorem WInv.at {r : Int} {ds pre post : List Int} {whole unit : Int} {n : Nat} (h : WInv r ds pre whole unit) (hf : Figs ds) (he : KStt.codes (figT ds) = pre ++ (n : Int) :: post) :
    ∃ p d q, ds = p ++ d :: q ∧ pre = p.map (fun d => ((figCp d : Nat) : Int)) ∧ whole = valF r p ∧ unit = r ^ p.length ∧ n = figCp d ∧ 0 ≤ d ∧ d < 36 := by
  obtain ⟨p, q, h1, h2, h3, h4⟩ := h.ex
  rw [codes_fig, h1, h2, List.map_append] at he
  have he2 := List.append_cancel_left he
  cases q with
  | nil => simp at he2
  | cons d q =>
    simp only [List.map_cons, List.cons.injEq] at he2
    have hd := hf d (by rw [h1]; simp)
    refine ⟨p, d, q, h1, h2, h3, h4, ?_, hd.1, hd.2⟩
    omega
theorem WInv.step {r : Int} {ds pre post : List Int} {whole unit : Int} {n : Nat} (h : WInv r ds pre whole unit) (hf : Figs ds) (he : KStt.codes (figT ds) = pre ++ (n : Int) :: post) :
    WInv r ds (pre ++ [(n : Int)]) (whole * r + Txt.find FIG ⟨#[n]⟩) (unit * r) := by
  obtain ⟨p, d, q, h1, h2, h3, h4, h5, h6, h7⟩ := h.at hf he
  refine ⟨p ++ [d], q, by rw [h1]; simp, ?_, ?_, ?_⟩
  · rw [h2, h5]; simp
  · rw [h3, h5, find_fig' h6 h7]; simp [valF]
  · rw [h4, List.length_append, List.length_singleton, Int.pow_succ]
theorem WInv.done {r : Int} {ds : List Int} {whole unit : Int} (h : WInv r ds (KStt.codes (figT ds)) whole unit) : whole = valF r ds ∧ unit = r ^ ds.length := by
  obtain ⟨p, q, h1, h2, h3, h4⟩ := h.ex
  rw [codes_fig, h1, List.map_append] at h2
  have hl := congrArg List.length h2
  simp at hl
  subst hl
  simp at h1
  subst h1
  exact ⟨h3, h4⟩
section
variable {prog : Program} {w : World} {A : Around} {E : Value → Shared → Prop} {s : Shared} {t u : Tok} {Q : Value → Shared → Prop}
theorem index_fig {r : Int} {ds pre post : List Int} {whole unit : Int} {n : Nat} (hA : A.handled = none) (h : WInv r ds pre whole unit) (hf : Figs ds) (he : KStt.codes (figT ds) = pre ++ (n : Int) :: post)
    (hQ : Q (.int (Txt.find FIG ⟨#[n]⟩) s.toks) { s with toks := s.toks + 1 }) : wpAny (model prog w) A (call (.builtin "str.index") [.str FIG t, .str ⟨#[n]⟩ u]) Q E s := by
  obtain ⟨p, d, q, h1, h2, h3, h4, h5, h6, h7⟩ := h.at hf he
  refine index_or hA (fun e _ => ?_) fun _ _ => hQ
  rw [h5, find_fig' h6 h7] at e
  omega
theorem mod_any {a n : Int} (hn : 0 < n) (h : ∀ x, 0 ≤ x → x < n → Q (.int x s.toks) { s with toks := s.toks + 1 }) : wpAny (model prog w) A (binaryOp .Mod (.int a t) (.int n u)) Q E s :=
  mod_int' (by omega) (h _ (Int.fmod_nonneg_of_pos _ hn) (Int.fmod_lt_of_pos _ hn))
end
end Mine
end

section
open PySem PySem.W PyProof.Rows PySem.Calls
set_option Elab.async false
set_option maxRecDepth 100000
namespace Mine
abbrev tupO (its : Array Value) (k : Nat) : Obj := { cls := .type "tuple", data := .seq its k }
/-- the source of a comprehension: a tuple that the call has made -/
def TupSrc (prog : Program) (w : World) (A : Around) (h₀ : Heap) (L : Addr) (m : Str → Option Value) (env : Env) (elt : Expr) (x : Str) (scope : Scope) (cl : List (Str × Addr)) (Fin : Shared → List Value → List (Addr × Obj) → Prop) (xv : Value) (s₁ : Shared) : Prop :=
  ∃ ax its k news, xv = .ref ax ∧ A.handled = none ∧ Fr h₀ L s₁.heap m ∧ News h₀ L s₁.heap news ∧ (ax, tupO its k) ∈ news ∧ its.size ≤ sizeLine ∧
    ∀ g, LCg.CompRest prog w A h₀ L m env elt x scope cl { s₁ with heap := g } (fun nw => (ax, tupO its k) ∈ nw) (fun i v => its[i]? = some v) (Fin { s₁ with heap := g }) its.size 0 [] news
section
variable {prog : Program} {w : World} {A : Around} {E : Value → Shared → Prop} {s : Shared} {h₀ : Heap} {L : Addr} {m : Str → Option Value} {env : Env}
theorem comp_tuple {elt iter : Expr} {x y : Str} {px py : Pos} {scope : Scope} {cl : List (Str × Addr)} {pos spos : Pos} {Q : Flow → Shared → Prop} (hF0 : Fr h₀ L s.heap m) (hLe : env.locals = L)
    (hsw : swapsWith (.ListComp elt [⟨.Name x px, iter, [], 0⟩] scope pos) (some (.Name y py)) spos.line env = pure true)
    (hclos : closureFor scope env = pure cl) (hcell : ∀ z ∈ scope.names, z.2 ≠ .cell) (hkind : scope.kind = .function)
    (hnames : ∀ z ∈ scope.names, z.2 = .local → scope.names.lookup z.1 = some .local) (hx : scope.names.lookup x = some .local)
    (hy : env.kindOf y = some .local) (hp : (env.scope.kind == .class || (env.scope.kind == .module && env.locals != env.globals)) = false)
    (h : wpAny (model prog w) A (eval iter env) (TupSrc prog w A h₀ L m env elt x scope cl (fun s₂ => LCg.FinA h₀ L m s₂ y Q)) E s)
    (hs : ∀ x, foldedSetIterable iter env x = pure x := by intro _; rfl) :
    wpAny (model prog w) A (exec (.Assign [.Name y py] (.ListComp elt [⟨.Name x px, iter, [], 0⟩] scope pos) spos) env) Q E s := by
  subst hLe
  rw [exec_Assign_Name_used _ _ _ _ hsw]
  refine wpAny_bind (wpAny_standAt (wpAny_bind ?_))
  show wpAny _ A (do let _ ← comprehension (.ListComp elt [⟨.Name x px, iter, [], 0⟩] scope pos) scope env _ (newList []) false (eval iter env) (some (assign (.Name y py) env))) _ _ s
  refine wpAny_bind (wpAny_mono (wpAny_comprehension_free (use := some (assign (.Name y py) env)) (Q := fun _ s' => Q .next s') rfl hs hclos hkind hnames
    (wpAny_mono h (fun xv s₁ h₁ => ?_) fun _ _ e => e)) (fun _ s' hq => wpAny_pure (wpAny_pure hq)) fun _ _ e => e)
  obtain ⟨ax, its, k, news, rfl, hh, F, N, hm, hsz, R⟩ := h₁
  have ht : s₁.heap.IsTuple ax its := ⟨_, (N _ hm).1, rfl, k, rfl⟩
  have hlt : ax < s₁.heap.objs.size := Heap.lt_size (N _ hm).1
  refine wpAny_pyIter_tuple ht ?_
  have up : ∀ b o, s₁.heap.get? b = some o → (s₁.heap.push { cls := .type "tuple_iterator", data := .fields #[.ref ax, .int 0 0] }).get? b = some o := fun b o e => Heap.get?_push_of_some _ e
  refine LCg.block_U (Walks.tuple hh s₁.heap.objs.size ax (Nat.ne_of_lt hlt) its) hsz (fun i h st => by obtain ⟨o, e, _⟩ := st.1; exact ⟨o, e⟩)
    (fun i h h' o nw st e e' _ N' S => ⟨by obtain ⟨o', q, r⟩ := st.1; rw [e] at q; cases q; exact ⟨o, e', r⟩, ⟨_, (N' _ S).1, rfl, k, rfl⟩⟩)
    hcell hkind hx ⟨⟨_, Heap.get?_push_size _ rfl, rfl, rfl⟩, ht.push _⟩ (fun b hb => ?_)
    (F.keeps up) (N.grown up) (Nat.ne_of_lt F.ns.lt) (next_is_new F) (fun p hp => Nat.ne_of_lt (Heap.lt_size (N p hp).1)) hm (R _) ?_
  · show b < (s₁.heap.push _).objs.size
    rw [Heap.size_push]
    rcases List.mem_cons.mp hb with rfl | hb
    · exact Nat.lt_succ_self _
    · rw [List.mem_singleton.mp hb]; exact Nat.lt_succ_of_lt hlt
  · intro D C h' tk m' ys news' F' N' o1 hn hC₀ hD₀ hCL hDL hCD offC fin
    show wpAny _ A (assign (.Name y py) env (.ref D)) _ _ _
    refine wpAny_assign_Name (wpAny_storeName_local hy F'.ns (fun h₂ hn₂ hs₂ => ?_) hp)
    have hL₀ : h₀.get? env.locals = none := Heap.get?_none_of_le F'.above
    have F₂ : Fr h₀ env.locals h₂ (fun z => if z = y then some (.ref D) else m z) := ⟨hn₂, fun b o e => hs₂.extBut b o (fun q => by rw [q, hL₀] at e; cases e) (F'.keep b o e), F'.above⟩
    refine ⟨m', hn.sameBut hs₂ hCL, fun h'' hs'' => fin D h'' _ (F₂.change hs'' hCL hC₀) (fun p hp => ?_) o1⟩
    have z : h₂.get? p.1 = some p.2 := hs₂.extBut _ _ (N' p hp).2.1 (N' p hp).1
    refine ⟨hs''.extBut _ _ ?_ z, (N' p hp).2⟩
    rcases List.mem_cons.mp hp with rfl | hp
    · exact Ne.symm hCD
    · exact offC p hp
end
end Mine
end

section
open PySem PySem.W PyProof.Rows PySem.Calls
set_option Elab.async false
set_option maxRecDepth 100000
namespace Mine

/-- a call of the def at f, from any frame with room for so many frames more -/
abbrev Sit (w : World) (f : Addr) (room : Nat) (body : (Heap → Heap → Addr → (Str → Option Value) → Shared → List (Addr × Obj) → (List Value → (Value → Shared → Prop) → (Value → Shared → Prop) → Prop) → Prop)) : Prop :=
  ∀ (loose : List Str) (mean : ExcName → Option Value) (mg mb : Str → Option Value)
    (dp un : Nat) (gd : Option (List Code)) (cn : Str) (cs : Scope) (a : Addr) (ccd : Value) (cl : List (Str × Addr)) (outer : List Env) (A₀ : Around) (base h₀ : Heap) (L : Addr) (m : Str → Option Value) (news : List (Addr × Obj)) (s : Shared),
    Below A₀ base outer h₀ → Fr h₀ L s.heap m → (Mine.hd.heap_39 w.params).In h₀ → News h₀ L s.heap news → Top Mine.hd.view_39 loose mean mg mb h₀ → cs.kind = .function → dp + room < recursionLimit → un + 8 * room + 100 < cLine →
    body base h₀ L m s news (fun vs Q E => wpAny (model PySem.Challenge.rw_rg0174_01.row.prog w) (ktrTop dp un gd cn cs L a ccd cl outer) (call (.ref f) vs) Q E s)

theorem size_of_ints {us : List Value} {ns : List Int} (h : IntsAre us ns) (hn : ns.length ≤ 1000) : us.toArray.size ≤ sizeLine := by
  rw [List.size_toArray, IntsAre.length h, PySem.sizeLine_eq]; omega

section
variable {prog : Program} {w : World} {A : Around} {E : Value → Shared → Prop} {s : Shared} {h₀ : Heap} {L D : Addr} {m : Str → Option Value} {news news' : List (Addr × Obj)} {us : List Value} {ns : List Int} {n : Nat} {x : Int} {u t : Tok}
theorem ints_at {us : List Value} {ns : List Int} (h : IntsAre us ns) : ∀ i, i < ns.length → ∃ t, us[i]? = some (Value.int (ns.getD i 0) t) := by
  induction h with
  | nil => intro i hi; simp at hi
  | cons k t _ ih =>
    intro i hi
    cases i with
    | zero => exact ⟨t, rfl⟩
    | succ i =>
      obtain ⟨t', e⟩ := ih i (by simpa using hi)
      exact ⟨t', by simpa using e⟩
theorem get_last {Q : Value → Shared → Prop} (N : News h₀ L s.heap news) (hm : (D, listOf us.toArray n) ∈ news) (hi : IntsAre us ns) (h0 : 0 < (ns.length : Int)) (h1 : ns.length ≤ 1000) (h : ∀ t, Q (.int (ns.getD (-1 + (ns.length : Int)).toNat 0) t) s) :
    wpAny (model prog w) A (getItem (.ref D) (.int (-1) u)) Q E s := by
  have hs : us.toArray.size = ns.length := by rw [List.size_toArray]; exact hi.length
  obtain ⟨t, e⟩ := ints_at hi (-1 + (ns.length : Int)).toNat (by omega)
  refine wpAny_getItem_list_neg (PySem.IsL.isList (n := n) (N _ hm).1) (by decide) (by rw [hs]; omega) (by decide) ?_ (h t)
  rw [hs]
  simpa using e
theorem set_last {Q : Unit → Shared → Prop} (F : Fr h₀ L s.heap m) (N : News h₀ L s.heap news) (U : Upd D (listOf us.toArray n) (listOf (us.dropLast ++ [Value.int x u]).toArray n) news news') (hi : IntsAre us ns) (h0 : 0 < (ns.length : Int))
    (h : ∀ h', Fr h₀ L h' m → News h₀ L h' news' → IntsAre (us.dropLast ++ [Value.int x u]) (ns.dropLast ++ [x]) → Q () { s with heap := h' }) :
    wpAny (model prog w) A (setItem (.ref D) (.int (-1) t) (Value.int x u)) Q E s := by
  obtain ⟨pre, post, rfl, rfl, a, b⟩ := U.split
  have z := N (D, listOf us.toArray n) (List.mem_append.mpr (.inr (.head _)))
  have hl : us.length = ns.length := hi.length
  have hs : us.toArray.size = ns.length := by rw [List.size_toArray]; exact hl
  obtain ⟨y, t', h1, h2, h3⟩ := kpa_ints hi (by omega)
  have hk : ((-1 : Int) + (us.toArray.size : Int)).toNat = us.dropLast.length := by rw [List.size_toArray, List.length_dropLast]; omega
  refine ki_setBack z.1 (by decide) (by rw [hs]; omega) (by decide) (h _ (F.change (Heap.SameBut.update ..) z.2.1 z.2.2) (ki_turn _ N a b ?_ ?_) (IntsAre.append h3 (.cons x u .nil)))
  · show us.toArray.setIfInBounds _ (Value.int x u) = (us.dropLast ++ [Value.int x u]).toArray
    rw [hk]
    apply Array.toList_inj.mp
    rw [h1]
    simp
  · have e : (us.dropLast ++ [Value.int x u]).length = us.length := by rw [List.length_append, List.length_dropLast, List.length_singleton]; omega
    simp [e]
end
abbrev CRet (h₀ : Heap) (L : Addr) (m : Str → Option Value) (s : Shared) (news : List (Addr × Obj)) (Q : Value → Shared → Prop) (res : List Int × Int) : Prop :=
  ∀ (T F : Addr) (vs : List Value) (n' n'' : Nat) (t' : Tok) (h' : Heap) (tk' : Nat), Fr h₀ L h' m → IntsAre vs res.1 →
    News h₀ L h' ((T, { cls := .type "tuple", data := .seq #[.ref F, .int res.2 t'] n'' }) :: (F, listOf vs.toArray n') :: news) → (∀ p ∈ news, p.1 < F) → F < T → Q (.ref T) { s with heap := h', toks := tk' }
section
variable {h₀ h' : Heap} {L F T : Addr} {m : Str → Option Value} {s : Shared} {news : List (Addr × Obj)} {Q : Value → Shared → Prop} {res : List Int × Int} {vs : List Value} {ns : List Int} {n' n'' : Nat} {c : Int} {t' : Tok} {tk' : Nat} {x : Addr × Obj}
theorem c_end (hret : CRet h₀ L m s news Q res) (e : res = (ns, c)) (kF : Fr h₀ L h' m) (kN : News h₀ L h' ((T, { cls := .type "tuple", data := .seq #[.ref F, .int c t'] n'' }) :: (F, listOf vs.toArray n') :: news))
    (hi : IntsAre vs ns) (hA : ∀ p ∈ news, p.1 < F) (hB : F < T) : Q (.ref T) { s with heap := h', toks := tk' } := by
  subst e
  exact hret _ _ _ _ _ _ _ _ kF hi kN hA hB
theorem c_end1 (hret : CRet h₀ L m s news Q res) (e : res = (ns, c)) (kF : Fr h₀ L h' m) (kN : News h₀ L h' ((T, { cls := .type "tuple", data := .seq #[.ref F, .int c t'] n'' }) :: (F, listOf vs.toArray n') :: x :: news))
    (hi : IntsAre vs ns) (hA : ∀ p ∈ news, p.1 < F) (hB : F < T) : Q (.ref T) { s with heap := h', toks := tk' } :=
  c_end (n' := n') (n'' := n'') (t' := t') hret e kF (kst_newsOf kN (by intro p hp; simp only [List.mem_cons] at hp ⊢; rcases hp with h | h | h <;> simp [h])) hi hA hB
theorem c_end3 {x y z : Addr × Obj} {res' : List Int × Int} (hret : CRet h₀ L m s news Q res) (e : res' = res) (kF : Fr h₀ L h' m) (kN : News h₀ L h' ((T, { cls := .type "tuple", data := .seq #[.ref F, .int res'.2 t'] n'' }) :: (F, listOf vs.toArray n') :: x :: y :: z :: news))
    (hi : IntsAre vs res'.1) (hA : ∀ p ∈ x :: y :: z :: news, p.1 < F) (hB : F < T) : Q (.ref T) { s with heap := h', toks := tk' } := by
  subst e
  exact hret _ _ _ n' n'' t' _ _ kF hi (kst_newsOf kN (by intro p hp; simp only [List.mem_cons] at hp ⊢; rcases hp with h | h | h <;> simp [h])) (fun p hp => hA p (.tail _ (.tail _ (.tail _ hp)))) hB
theorem c_endM {y : Addr × Obj} (hret : CRet h₀ L m s news Q res) (e : res = (ns, c)) (kF : Fr h₀ L h' m) (kN : News h₀ L h' ((T, { cls := .type "tuple", data := .seq #[.ref F, .int c t'] n'' }) :: y :: (F, listOf vs.toArray n') :: news))
    (hi : IntsAre vs ns) (hA : ∀ p ∈ news, p.1 < F) (hB : F < T) : Q (.ref T) { s with heap := h', toks := tk' } :=
  c_end (n' := n') (n'' := n'') (t' := t') hret e kF (kst_newsOf kN (by intro p hp; simp only [List.mem_cons] at hp ⊢; rcases hp with h | h | h <;> simp [h])) hi hA hB
end
theorem allLt_mem {d : Addr} {l : List (Addr × Obj)} (h : AllLt d l) : ∀ p ∈ l, p.1 < d := kst_ltOf h
end Mine
end

section
open PySem PySem.W PyProof.Rows
set_option Elab.async false
set_option maxRecDepth 100000
set_option maxHeartbeats 8000000
namespace Mine

local macro_rules | `(tactic| walk_at "call type:list") => `(tactic| (k_here; (with_reducible show wpAny _ _ (call (Value.type "list") [Value.ref _]) _ _ _); k_dflt (refine' list_copyK ?k1 ?k2 ?k3 ?_ ?z; (case k1 => k_asm); (case k2 => k_asm); (case k3 => exact News.isList (by k_asm) (by k_mem)); (case z => exact size_of_ints (by assumption) (by assumption)); k_whole); intro D' c' h' F' N' l1; (try k_lt l1)))
local macro_rules | `(tactic| walk_at "getItem ref int") => `(tactic| (k_here; (with_reducible show wpAny _ _ (PySem.getItem (Value.ref _) (Value.int (-1) _)) _ _ _); k_dflt (refine' get_last ?k1 ?k2 ?k3 ?k4 ?k5 ?_; (case k1 => k_asm); (case k2 => k_mem); (case k3 => with_reducible assumption); (case k4 => omega); (case k5 => omega); k_whole); intro _))
local macro_rules | `(tactic| walk_at "setItem ref int") => `(tactic| (k_here; (with_reducible show wpAny _ _ (setItem (Value.ref _) (Value.int (-1) _) (Value.int _ _)) _ _ _); k_dflt (refine' set_last ?k1 ?k2 ?k3 ?k4 ?k5 ?_; (case k1 => k_asm); (case k2 => k_asm); (case k3 => k_upd); (case k4 => with_reducible assumption); (case k5 => omega); k_whole); intro h' F' N' hi'))

theorem carried_claim (w : World) (D : Addr) (us : List Value) (ns : List Int) (n : Nat) (r : Int) (t : Tok) :
    Sit w 70 2 (fun _ h₀ L m s news ans => ∀ Q E : Value → Shared → Prop, (D, listOf us.toArray n) ∈ news → IntsAre us ns → ns.length ≤ 1000 → 3 ≤ r → r ≤ 36 →
      CRet h₀ L m s news Q (carriedF r ns) →
      ans [.ref D, .int r t] Q E) := by
  k_with_none
  w_top off
  have hfill : @Eq (W.OpenLaw × (Params → Frag)) (PySem.Challenge.rw_rg0174_01, hd.heap_39) (PySem.Challenge.rw_rg0174_01, hd.heap_39) := by k_fill; rfl
  intro loose mean mg mb dp un gd cn cs a ccd cl outer A₀ base h₀ L m news s B F X N T hk hdp hu Q E hmem hints hlen hr3 hr36 hret
  k_with "state" => exact cs_turn (by assumption) (by assumption) (by assumption) (by assumption)
  k_with "measure" => exact cs_falls (by assumption)
  k_with "exec While BoolOp cons nil" => k_while (fun _ found => strip r found = strip r ns ∧ found.length ≤ 1000) (fun _ found => found.length) "found"
  refine wpAny_call ?_
  k_dflt cell_enter
  k_steps
  all_goals (rename_i kF kN _ _)
  all_goals first
    | (exfalso; omega)
    | exact c_end hret (cs_some (by assumption) (by assumption) (by assumption)) kF kN (by assumption) (by assumption) (And.left (by assumption))
    | exact c_end1 hret (cs_none (by assumption) (by assumption)) kF kN .nil (allLt_mem (And.right (by assumption))) (And.left (by assumption))

theorem carried_call {w : World} {D : Addr} {us : List Value} {ns : List Int} {n : Nat} {x r : Int} {tx t : Tok} {loose : List Str} {mean : ExcName → Option Value} {mg mb : Str → Option Value}
    {dp un : Nat} {gd : Option (List Code)} {cn : Str} {cs : Scope} {a : Addr} {ccd : Value} {cl : List (Str × Addr)} {outer : List Env} {A₀ : Around} {base h₀ : Heap} {L : Addr} {m : Str → Option Value} {news : List (Addr × Obj)} {s : Shared} {Q E : Value → Shared → Prop}
    (B : Below A₀ base outer h₀) (F : Fr h₀ L s.heap m) (X : (hd.heap_39 w.params).In h₀) (N : News h₀ L s.heap news) (T : Top hd.view_39 loose mean mg mb h₀) (hk : cs.kind = .function) (hdp : dp + 2 < recursionLimit) (hu : un + 8 * 2 + 100 < cLine)
    (hm : (D, listOf (us ++ [Value.int x tx]).toArray n) ∈ news) (hi : IntsAre us ns) (hl : ns.length ≤ 100) (h3 : 3 ≤ r) (h36 : r ≤ 36) (hret : CRet h₀ L m s news Q (carriedF r (ns ++ [x]))) :
    wpAny (model PySem.Challenge.rw_rg0174_01.row.prog w) (ktrTop dp un gd cn cs L a ccd cl outer) (call (.ref 70) [.ref D, .int r t]) Q E s :=
  carried_claim w D _ (ns ++ [x]) n r t loose mean mg mb dp un gd cn cs a ccd cl outer A₀ base h₀ L m news s B F X N T hk hdp hu Q E hm (IntsAre.append hi (.cons x tx .nil)) (by rw [List.length_append, List.length_singleton]; omega) h3 h36 hret
end Mine
end

section
open PySem PySem.W PyProof.Rows
set_option Elab.async false
set_option maxRecDepth 100000
set_option maxHeartbeats 8000000
namespace Mine

local macro_rules | `(tactic| walk_at "call ref") => `(tactic| (k_here; (with_reducible show wpAny _ _ (call (Value.ref 70) [Value.ref _, Value.int _ _]) _ _ _); (rename News _ _ _ _ => nE'); (try simp only [List.push_toArray] at nE'); k_dflt (refine' carried_call ?cB ?cF ?cK nE' ?cT ?ck ?cd ?cu ?cm ?ci ?cl ?cr ?cs ?_; (case cB => k_asm); (case cF => k_asm); (case cK => k_asm); (case cT => k_asm); (case ck => exact rfl); (case cd => ktr_room); (case cu => ktr_units); (case cm => k_mem); (case ci => assumption); (case cl => assumption); (case cr => assumption); (case cs => assumption)); (intro cT cF cvs cn1 cn2 ct ch ctk cFr cIa cNw cA cB'); (try k_fold)))
local macro_rules | `(tactic| walk_at "binaryOp FloorDiv int int") => `(tactic| (k_here; (with_reducible refine floordiv_int ?kbe ?_ (Or.inl (PyProof.noPylong_of_log2 ?kbp))); (case kbe => omega); (case kbp => exact Small.log (by assumption))))
theorem rest_claim (w : World) (rest₀ unit r below₀ : Int) (t1 t2 t3 t4 : Tok) :
    Sit w 63 3 (fun _ h₀ L m s news ans => ∀ Q E : Value → Shared → Prop, 0 ≤ rest₀ → rest₀ < unit → unit ≤ 2 ^ 120 → 1 ≤ below₀ → 3 ≤ r → r ≤ 36 →
      CRet h₀ L m s news Q (rf unit r 100 rest₀ 2 below₀ []) →
      ans [.int rest₀ t1, .int unit t2, .int r t3, .int below₀ t4] Q E) := by
  k_with_none
  w_top off
  have hfill : @Eq (W.OpenLaw × (Params → Frag)) (PySem.Challenge.rw_rg0174_01, hd.heap_39) (PySem.Challenge.rw_rg0174_01, hd.heap_39) := by k_fill; rfl
  intro loose mean mg mb dp un gd cn cs a ccd cl outer A₀ base h₀ L m news s B F X N T hk hdp hu Q E hr0 hr1 hun hb hr3 hr36 hret
  have hup : 0 < unit := by omega
  have hI0 : RInv unit r (rf unit r 100 rest₀ 2 below₀ []) rest₀ 2 below₀ [] := RInv.init hun hr0 hr1 hb
  have hsm : Small unit := Small.of hup hun
  clear hun
  have hnil : IntsAre [] [] := .nil
  generalize rf unit r 100 rest₀ 2 below₀ [] = res at hret hI0
  k_with "state" => first | exact RInv.init' (by assumption) | exact RInv.steps (by assumption) (by assumption) (by assumption) (by omega)
  k_with "measure" => exact RInv.falls (by assumption) (by assumption) (by assumption)
  k_with "exec While Compare cons nil" => k_while (fun _ rest gap below found => RInv unit r res rest gap below found ∧ found.length ≤ 100) (fun _ _ _ below _ => (unit - below).toNat) "rest" "gap" "below" "found"
  refine wpAny_call ?_
  k_dflt cell_enter
  k_steps
  all_goals first
    | (rename_i cIa _ cA cB kF kN _ _; exact c_end3 hret (RInv.turn_out (by assumption) (by assumption) (by omega)) kF kN cIa cA cB)
    | (rename_i kF kN _ _; exact c_endM hret (RInv.done (by assumption) (by omega)) kF kN (by assumption) (by assumption) (And.left (And.right (by assumption))))

theorem rest_call {w : World} {rest₀ unit r below₀ : Int} {t1 t2 t3 t4 : Tok} {loose : List Str} {mean : ExcName → Option Value} {mg mb : Str → Option Value}
    {dp un : Nat} {gd : Option (List Code)} {cn : Str} {cs : Scope} {a : Addr} {ccd : Value} {cl : List (Str × Addr)} {outer : List Env} {A₀ : Around} {base h₀ : Heap} {L : Addr} {m : Str → Option Value} {news : List (Addr × Obj)} {s : Shared} {Q E : Value → Shared → Prop}
    (B : Below A₀ base outer h₀) (F : Fr h₀ L s.heap m) (X : (hd.heap_39 w.params).In h₀) (N : News h₀ L s.heap news) (T : Top hd.view_39 loose mean mg mb h₀) (hk : cs.kind = .function) (hdp : dp + 3 < recursionLimit) (hu : un + 8 * 3 + 100 < cLine)
    (h0 : 0 ≤ rest₀) (h1 : rest₀ < unit) (h2 : unit ≤ 2 ^ 120) (hb : 1 ≤ below₀) (h3 : 3 ≤ r) (h36 : r ≤ 36) (hret : CRet h₀ L m s news Q (rf unit r 100 rest₀ 2 below₀ [])) :
    wpAny (model PySem.Challenge.rw_rg0174_01.row.prog w) (ktrTop dp un gd cn cs L a ccd cl outer) (call (.ref 63) [.int rest₀ t1, .int unit t2, .int r t3, .int below₀ t4]) Q E s :=
  rest_claim w rest₀ unit r below₀ t1 t2 t3 t4 loose mean mg mb dp un gd cn cs a ccd cl outer A₀ base h₀ L m news s B F X N T hk hdp hu Q E h0 h1 h2 hb h3 h36 hret
end Mine
end

section
open PySem PySem.W PyProof.Rows
set_option Elab.async false
set_option maxRecDepth 100000
set_option maxHeartbeats 8000000
namespace Mine
section
variable {prog : Program} {w : World} {A : Around} {E : Value → Shared → Prop} {s : Shared} {b : Int} {t u : Tok} {Q : Value → Shared → Prop}
theorem mod_zero (hb : b ≠ 0) (h : Q (.int 0 s.toks) { s with toks := s.toks + 1 }) : wpAny (model prog w) A (binaryOp .Mod (.int 0 t) (.int b u)) Q E s :=
  mod_int' hb (by rw [Int.zero_fmod]; exact h)
theorem fdiv_zero (hb : b ≠ 0) (hl : b.natAbs.log2 < 9000) (h : Q (.int 0 s.toks) { s with toks := s.toks + 1 }) : wpAny (model prog w) A (binaryOp .FloorDiv (.int 0 t) (.int b u)) Q E s :=
  floordiv_int hb (by rw [Int.zero_fdiv]; exact h) (Or.inl (PyProof.noPylong_of_log2 hl))
end
theorem log_small {b : Int} (h0 : 3 ≤ b) (h1 : b ≤ 36) : b.natAbs.log2 < 9000 := by
  have h3 := (Nat.log2_lt (by omega : b.natAbs ≠ 0)).mpr (by omega : b.natAbs < 2 ^ 6)
  omega
local macro_rules | `(tactic| walk_at "binaryOp Mod int int") => `(tactic| (k_here; (with_reducible refine mod_zero ?kbe ?_); (case kbe => omega)))
local macro_rules | `(tactic| walk_at "binaryOp FloorDiv int int") => `(tactic| (k_here; (with_reducible refine fdiv_zero ?kbe ?kbl ?_); (case kbe => omega); (case kbl => exact log_small (by assumption) (by assumption))))
/-- the ledger is as it was, and a text comes back -/
abbrev SRet (h₀ : Heap) (L : Addr) (m : Str → Option Value) (s : Shared) (news : List (Addr × Obj)) (Q : Value → Shared → Prop) (res : Str) : Prop :=
  ∀ (t' : Tok) (h' : Heap) (tk' : Nat), Fr h₀ L h' m → News h₀ L h' news → Q (.str res t') { s with heap := h', toks := tk' }
local macro_rules | `(tactic| walk_at "my own one") => `(tactic| fail "none")
local macro_rules | `(tactic| units_room) => `(tactic| ktr_units)
theorem whole_claim (w : World) (r : Int) (t1 t2 : Tok) :
    Sit w 56 1 (fun _ h₀ L m s news ans => ∀ Q E : Value → Shared → Prop, 3 ≤ r → r ≤ 36 →
      SRet h₀ L m s news Q (Str.ofString "0") → ans [.int 0 t1, .int r t2] Q E) := by
  k_with_none
  w_top off
  have hfill : @Eq (W.OpenLaw × (Params → Frag)) (PySem.Challenge.rw_rg0174_01, hd.heap_39) (PySem.Challenge.rw_rg0174_01, hd.heap_39) := by k_fill; rfl
  intro loose mean mg mb dp un gd cn cs a ccd cl outer A₀ base h₀ L m news s B F X N T hk hdp hu Q E hr3 hr36 hret
  have hnil : IntsAre [] [] := .nil
  refine wpAny_call ?_
  k_dflt cell_enter
  k_steps
  rename_i kF kN _ _
  rw [show Txt.join (Str.ofString "") [Str.ofString "0"] = Str.ofString "0" from by decide +kernel]
  exact hret _ _ _ kF (kst_newsOf kN (fun p hp => .tail _ (.tail _ (.tail _ hp))))
theorem whole_call {w : World} {r : Int} {t1 t2 : Tok} {loose : List Str} {mean : ExcName → Option Value} {mg mb : Str → Option Value}
    {dp un : Nat} {gd : Option (List Code)} {cn : Str} {cs : Scope} {a : Addr} {ccd : Value} {cl : List (Str × Addr)} {outer : List Env} {A₀ : Around} {base h₀ : Heap} {L : Addr} {m : Str → Option Value} {news : List (Addr × Obj)} {s : Shared} {Q E : Value → Shared → Prop}
    (B : Below A₀ base outer h₀) (F : Fr h₀ L s.heap m) (X : (hd.heap_39 w.params).In h₀) (N : News h₀ L s.heap news) (T : Top hd.view_39 loose mean mg mb h₀) (hk : cs.kind = .function) (hdp : dp + 1 < recursionLimit) (hu : un + 8 * 1 + 100 < cLine)
    (h3 : 3 ≤ r) (h36 : r ≤ 36) (hret : SRet h₀ L m s news Q (Str.ofString "0")) :
    wpAny (model PySem.Challenge.rw_rg0174_01.row.prog w) (ktrTop dp un gd cn cs L a ccd cl outer) (call (.ref 56) [.int 0 t1, .int r t2]) Q E s :=
  whole_claim w r t1 t2 loose mean mg mb dp un gd cn cs a ccd cl outer A₀ base h₀ L m news s B F X N T hk hdp hu Q E h3 h36 hret
end Mine
end

section
open PySem PySem.W PyProof.Rows
set_option Elab.async false
set_option maxRecDepth 100000
set_option maxHeartbeats 8000000
namespace Mine

/-- a double's bits, its mantissa, the power of two below it (less its sign), and two to that -/
structure BitsOk (bits man sh U : Int) : Prop where
  nan : Builtin.bitAnd bits 9223372036854775807 = bits
  pos : 0 < bits
  lt : bits < 9218868437227405312
  s63 : bits.fdiv (2 ^ (63 : Int).toNat) = 0
  s52 : bits.fdiv (2 ^ (52 : Int).toNat) = 1075 - sh
  exp : Builtin.bitAnd (1075 - sh) 2047 = 1075 - sh
  frac : Builtin.bitAnd bits 4503599627370495 = man - 4503599627370496
  hid : Builtin.bitOr (man - 4503599627370496) 4503599627370496 = man
  sh0 : 1 ≤ sh
  sh1 : sh ≤ 115
  unit : U = 2 ^ sh.toNat
  man0 : 0 ≤ man
  man1 : man < U

section
variable {prog : Program} {w : World} {A : Around} {E : Value → Shared → Prop} {s : Shared} {bits man sh U c : Int} {t u : Tok} {Q : Value → Shared → Prop}
theorem and_nan (h : BitsOk bits man sh U) (hc : c = 9223372036854775807) (hQ : Q (.int bits s.toks) { s with toks := s.toks + 1 }) : wpAny (model prog w) A (binaryOp .BitAnd (.int bits t) (.int c u)) Q E s := by
  subst hc; exact and_int (by rw [h.nan]; exact hQ)
theorem and_exp (h : BitsOk bits man sh U) (hc : c = 2047) (hQ : Q (.int (1075 - sh) s.toks) { s with toks := s.toks + 1 }) : wpAny (model prog w) A (binaryOp .BitAnd (.int (1075 - sh) t) (.int c u)) Q E s := by
  subst hc; exact and_int (by rw [h.exp]; exact hQ)
theorem and_frac (h : BitsOk bits man sh U) (hc : c = 4503599627370495) (hQ : Q (.int (man - 4503599627370496) s.toks) { s with toks := s.toks + 1 }) : wpAny (model prog w) A (binaryOp .BitAnd (.int bits t) (.int c u)) Q E s := by
  subst hc; exact and_int (by rw [h.frac]; exact hQ)
theorem or_hid (h : BitsOk bits man sh U) (hc : c = 4503599627370496) (hQ : Q (.int man s.toks) { s with toks := s.toks + 1 }) : wpAny (model prog w) A (binaryOp .BitOr (.int (man - 4503599627370496) t) (.int c u)) Q E s := by
  subst hc; exact or_int (by rw [h.hid]; exact hQ)
theorem shr_sign (h : BitsOk bits man sh U) (hc : c = 63) (hQ : Q (.int 0 s.toks) { s with toks := s.toks + 1 }) : wpAny (model prog w) A (binaryOp .RShift (.int bits t) (.int c u)) Q E s := by
  subst hc; exact rshift_int (by decide) (by rw [h.s63]; exact hQ)
theorem shr_exp (h : BitsOk bits man sh U) (hc : c = 52) (hQ : Q (.int (1075 - sh) s.toks) { s with toks := s.toks + 1 }) : wpAny (model prog w) A (binaryOp .RShift (.int bits t) (.int c u)) Q E s := by
  subst hc; exact rshift_int (by decide) (by rw [h.s52]; exact hQ)
theorem shl_unit (h : BitsOk bits man sh U) (hc : c = sh) (hQ : Q (.int U s.toks) { s with toks := s.toks + 1 }) : wpAny (model prog w) A (binaryOp .LShift (.int 1 t) (.int c u)) Q E s := by
  subst hc
  have h0 := h.sh0
  have h1 := h.sh1
  exact lshift_int_small (by omega) (by omega) (by decide) (by rw [Int.one_mul, ← h.unit]; exact hQ)
theorem BitsOk.upos (h : BitsOk bits man sh U) : 0 < U := by rw [h.unit]; exact Int.pow_pos (by decide)
theorem BitsOk.ule (h : BitsOk bits man sh U) : U ≤ 2 ^ 115 := by
  have h1 := h.sh1
  have h2 : 2 ^ sh.toNat ≤ 2 ^ 115 := Nat.pow_le_pow_right (by decide) (by omega : sh.toNat ≤ 115)
  rw [h.unit]; exact_mod_cast h2
theorem mod_unit (h : BitsOk bits man sh U) (hQ : Q (.int man s.toks) { s with toks := s.toks + 1 }) : wpAny (model prog w) A (binaryOp .Mod (.int man t) (.int U u)) Q E s := by
  have h1 := h.upos
  have h2 := h.man0
  have h3 := h.man1
  refine mod_int' (by omega) ?_
  rw [Int.fmod_eq_emod_of_nonneg _ (by omega), Int.emod_eq_of_lt h2 h3]; exact hQ
theorem div_unit (h : BitsOk bits man sh U) (hQ : Q (.int 0 s.toks) { s with toks := s.toks + 1 }) : wpAny (model prog w) A (binaryOp .FloorDiv (.int man t) (.int U u)) Q E s := by
  have h1 := h.upos
  have h2 := h.man0
  have h3 := h.man1
  have h4 := h.ule
  refine floordiv_int (by omega) ?_ (Or.inl (PyProof.noPylong_of_log2 (Small.of h1 (by omega)).log))
  rw [Int.fdiv_eq_ediv_of_nonneg _ (by omega), Int.ediv_eq_zero_of_lt h2 h3]; exact hQ
end

/-- what is asked of the answer of rest_figures -/
structure FigsOk (U r man : Int) (ds : List Int) : Prop where
  res : rf (4 * U) r 100 (4 * man) 2 (if man = 4503599627370496 then 1 else 2) [] = (ds, 0)
  some : 0 < (ds.length : Int)
  len : ds.length ≤ 100
  figs : ∀ d ∈ ds, 0 ≤ d ∧ d < 36


theorem rest_call0 {w : World} {U r man bl bits sh x y : Int} {ds : List Int} {t1 t2 t3 t4 : Tok} {loose : List Str} {mean : ExcName → Option Value} {mg mb : Str → Option Value}
    {dp un : Nat} {gd : Option (List Code)} {cn : Str} {cs : Scope} {a : Addr} {ccd : Value} {cl : List (Str × Addr)} {outer : List Env} {A₀ : Around} {base h₀ : Heap} {L : Addr} {m : Str → Option Value} {news : List (Addr × Obj)} {s : Shared} {Q E : Value → Shared → Prop}
    (B : Below A₀ base outer h₀) (F : Fr h₀ L s.heap m) (X : (hd.heap_39 w.params).In h₀) (N : News h₀ L s.heap news) (T : Top hd.view_39 loose mean mg mb h₀) (hk : cs.kind = .function) (hdp : dp + 3 < recursionLimit) (hu : un + 8 * 3 + 100 < cLine)
    (hb : BitsOk bits man sh U) (hf : FigsOk U r man ds) (hx : x = 4 * man) (hy : y = 4 * U) (h1 : bl = if man = 4503599627370496 then 1 else 2) (h3 : 3 ≤ r) (h36 : r ≤ 36)
    (hret : ∀ (T F : Addr) (vs : List Value) (n' n'' : Nat) (t' : Tok) (h' : Heap) (tk' : Nat), Fr h₀ L h' m → IntsAre vs ds →
      News h₀ L h' ((T, { cls := .type "tuple", data := .seq #[.ref F, .int 0 t'] n'' }) :: (F, listOf vs.toArray n') :: news) → (∀ p ∈ news, p.1 < F) → F < T → Q (.ref T) { s with heap := h', toks := tk' }) :
    wpAny (model PySem.Challenge.rw_rg0174_01.row.prog w) (ktrTop dp un gd cn cs L a ccd cl outer) (call (.ref 63) [.int x t1, .int y t2, .int r t3, .int bl t4]) Q E s := by
  have e1 := hb.upos
  have e2 := hb.man0
  have e3 := hb.man1
  have e4 := hb.ule
  subst hx hy
  refine rest_call B F X N T hk hdp hu (by omega) (by omega) (by omega) (by rw [h1]; split <;> omega) h3 h36 ?_
  rw [h1, hf.res]
  exact hret

local macro_rules | `(tactic| walk_at "binaryOp BitAnd int int") => `(tactic| (k_here; first
  | ((with_reducible refine' and_nan ?ka ?kb ?_); (case ka => assumption); (case kb => first | rfl | decide))
  | ((with_reducible refine' and_frac ?ka ?kb ?_); (case ka => assumption); (case kb => first | rfl | decide))
  | ((with_reducible refine' and_exp ?ka ?kb ?_); (case ka => assumption); (case kb => first | rfl | decide))))
local macro_rules | `(tactic| walk_at "binaryOp BitOr int int") => `(tactic| (k_here; (with_reducible refine' or_hid ?ka ?kb ?_); (case ka => assumption); (case kb => first | rfl | decide)))
local macro_rules | `(tactic| walk_at "binaryOp RShift int int") => `(tactic| (k_here; first
  | ((with_reducible refine' shr_sign ?ka ?kb ?_); (case ka => assumption); (case kb => first | rfl | decide))
  | ((with_reducible refine' shr_exp ?ka ?kb ?_); (case ka => assumption); (case kb => first | rfl | decide))))
local macro_rules | `(tactic| walk_at "binaryOp LShift int int") => `(tactic| (k_here; (with_reducible refine' shl_unit ?ka ?kb ?_); (case ka => assumption); (case kb => omega)))
local macro_rules | `(tactic| walk_at "binaryOp Mod int int") => `(tactic| (k_here; (with_reducible refine' mod_unit ?ka ?_); (case ka => assumption)))
local macro_rules | `(tactic| walk_at "binaryOp FloorDiv int int") => `(tactic| (k_here; (with_reducible refine' div_unit ?ka ?_); (case ka => assumption)))
local macro_rules | `(tactic| walk_at "call ref") => `(tactic| (k_here; (with_reducible show wpAny _ _ (call (Value.ref _) _) _ _ _); (refine wpAny_call ?_); k_dflt (refine' code_def ?k1 ?k2 ?k3 ?k4 ?k5 ?kA ?kF ?kK ?k6 ?k7 ?k8 ?k9 ?kB ?_ ?c2 ?c3 ?c4 ?c5; (case kA => exact rfl); (case kF => exact rfl); (case kK => exact rfl); (case k1 => k_asm); (case k2 => k_asm); (case k3 => k_asm); (case k4 => k_asm); (case k5 => k_asm); (case k6 => k_is); (case k7 => k_is); (case k8 => ktr_room); (case k9 => exact BindsTo.of_eq rfl); (case c5 => decide); (case kB => exact locs rfl); (case c2 => exact rfl); (case c3 => exact rfl); (case c4 => exact rfl); k_whole; intro g' L' h' FG' F' N' B' X' T'; (try dsimp only); (try k_lift B'); (try k_fold))))
local macro_rules | `(tactic| walk_at "call ref") => `(tactic| (k_here; (with_reducible show wpAny _ _ (call (Value.ref 63) [Value.int _ _, Value.int _ _, Value.int _ _, Value.int _ _]) _ _ _); k_dflt (refine' rest_call0 ?cB ?cF ?cK ?cN ?cT ?ck ?cd ?cu ?ca ?cb ?cx ?cy ?cl ?cr ?cs ?_; (case cB => k_asm); (case cF => k_asm); (case cK => k_asm); (case cN => k_asm); (case cT => k_asm); (case ck => exact rfl); (case cd => ktr_room); (case cu => ktr_units); (case ca => assumption); (case cb => assumption); (case cx => rfl); (case cy => rfl); (case cl => first | (rw [if_pos (by assumption)]) | (rw [if_neg (by assumption)])); (case cr => assumption); (case cs => assumption)); (intro cT cF cvs cn1 cn2 ct ch ctk cFr cIa cNw cA cB'); (k_lt cA); (try k_fold)))
local macro_rules | `(tactic| walk_at "call ref") => `(tactic| (k_here; (with_reducible show wpAny _ _ (call (Value.ref 56) [Value.int _ _, Value.int _ _]) _ _ _); k_dflt (refine' whole_call ?cB ?cF ?cK ?cN ?cT ?ck ?cd ?cu ?cr ?cs ?_; (case cB => k_asm); (case cF => k_asm); (case cK => k_asm); (case cN => k_asm); (case cT => k_asm); (case ck => exact rfl); (case cd => ktr_room); (case cu => ktr_units); (case cr => assumption); (case cs => assumption)); (intro ct ch ctk cFr cNw); (try k_fold)))
local macro_rules | `(tactic| units_room) => `(tactic| ktr_units)

local macro_rules | `(tactic| walk_at "eval ListComp") => `(tactic| (k_here; k_dflt (refine LCg.ListComp_U (F₀ := by k_asm) (by with_unfolding_all rfl) (by decide) (by rfl) (by decide) (by rfl) ?_)))
local macro_rules | `(tactic| walk_at "CompSrc") => `(tactic| (k_here; k_dflt (refine LCg.CompSrc.ledger (by rfl) (by k_asm) (by k_asm) (by k_mem) (by rw [List.size_toArray, IntsAre.length (by assumption), PySem.sizeLine_eq]; omega) ?_; intro g'; (refine' kct_list figS (by assumption) (fun k' t' I' oI' C' oC' D' m' ys' h' tk' E' hk' hC' hx' F' N' off' ne' => ?_) ?_); (all_goals (try ((show KPfMark → _); intro hMark'))))))
local macro_rules | `(tactic| walk_at "CompEnd") => `(tactic| (k_dflt (refine LCg.CompEnd.intro (by assumption) (by assumption) _ (fun p hp => hp) (by assumption) (Or.inr ⟨_, by k_mem, rfl, _, rfl⟩) ⟨rfl, _, rfl⟩)))
local macro_rules | `(tactic| walk_at "KPfDone") => `(tactic| (unfold KPfDone; intro ys' hc' hn'))
local macro_rules | `(tactic| walk_at "subscriptTail") => `(tactic| (k_here; (with_reducible show wpAny _ _ (subscriptTail _ _ (Value.str (Str.ofString "0123456789abcdefghijklmnopqrstuvwxyz") _) (Value.int _ _)) _ _ _); (with_unfolding_all refine' fig_item ?k1 ?k2 ?_ ?k3 ?k4; (case k1 => exact (FigsOk.figs (by assumption) _ (by assumption)).1); (case k2 => exact (FigsOk.figs (by assumption) _ (by assumption)).2); (case k3 => rfl); (case k4 => intro _; rfl))))
local macro_rules | `(tactic| walk_at "call builtin:str.join") => `(tactic| (k_here; (refine join_figs (News.isList (by k_asm) (by k_mem)) (by assumption) (by assumption) ?_; intro _ _)))
local macro_rules | `(tactic| walk_at "ite") => `(tactic| (k_here; first
  | (refine ite_neg (by (simp only [decide_eq_true_eq, beq_iff_eq, Bool.not_eq_true, decide_eq_false_iff_not, beq_eq_false_iff_ne, ne_eq]; omega)) ?_; walk_say "MINE")
  | (refine ite_pos (by (simp only [decide_eq_true_eq, beq_iff_eq, Bool.not_eq_true, decide_eq_false_iff_not, beq_eq_false_iff_ne, ne_eq]; omega)) ?_; walk_say "MINE")))
theorem radix_claim (w : World) (bits man sh U r : Int) (ds : List Int) (t1 t2 : Tok) :
    Sit w 75 4 (fun _ h₀ L m s news ans => ∀ Q E : Value → Shared → Prop, BitsOk bits man sh U → FigsOk U r man ds → 3 ≤ r → r ≤ 36 →
      SRet h₀ L m s news Q (txtF ds) → ans [.int bits t1, .int r t2] Q E) := by
  k_with_none
  w_top off
  have hfill : @Eq (W.OpenLaw × (Params → Frag)) (PySem.Challenge.rw_rg0174_01, hd.heap_39) (PySem.Challenge.rw_rg0174_01, hd.heap_39) := by k_fill; rfl
  intro loose mean mg mb dp un gd cn cs a ccd cl outer A₀ base h₀ L m news s B F X N T hk hdp hu Q E hb hf hr3 hr36 hret
  have hb1 := hb.pos
  have hb2 := hb.lt
  have hb3 := hb.sh0
  have hb4 := hb.sh1
  have hb5 := hb.man0
  have hf1 := hf.some
  have hf2 := hf.len
  have hf3 := hf.figs
  have hnil : IntsAre [] [] := .nil
  refine wpAny_call ?_
  k_dflt cell_enter
  k_steps
  all_goals (rename_i kF kN _ _
             rw [txt_eq0]
             exact hret _ _ _ kF (kst_newsOf kN (fun p hp => by (repeat' apply List.Mem.tail); exact hp)))
theorem radix_call {w : World} {bits man sh U r : Int} {ds : List Int} {t1 t2 : Tok} {loose : List Str} {mean : ExcName → Option Value} {mg mb : Str → Option Value}
    {dp un : Nat} {gd : Option (List Code)} {cn : Str} {cs : Scope} {a : Addr} {ccd : Value} {cl : List (Str × Addr)} {outer : List Env} {A₀ : Around} {base h₀ : Heap} {L : Addr} {m : Str → Option Value} {news : List (Addr × Obj)} {s : Shared} {Q E : Value → Shared → Prop}
    (B : Below A₀ base outer h₀) (F : Fr h₀ L s.heap m) (X : (hd.heap_39 w.params).In h₀) (N : News h₀ L s.heap news) (T : Top hd.view_39 loose mean mg mb h₀) (hk : cs.kind = .function) (hdp : dp + 4 < recursionLimit) (hu : un + 8 * 4 + 100 < cLine)
    (hb : BitsOk bits man sh U) (hf : FigsOk U r man ds) (h3 : 3 ≤ r) (h36 : r ≤ 36) (hret : SRet h₀ L m s news Q (txtF ds)) :
    wpAny (model PySem.Challenge.rw_rg0174_01.row.prog w) (ktrTop dp un gd cn cs L a ccd cl outer) (call (.ref 75) [.int bits t1, .int r t2]) Q E s :=
  radix_claim w bits man sh U r ds t1 t2 loose mean mg mb dp un gd cn cs a ccd cl outer A₀ base h₀ L m news s B F X N T hk hdp hu Q E hb hf h3 h36 hret
end Mine
end

section
open PySem PySem.W PyProof.Rows
set_option Elab.async false
set_option maxRecDepth 100000
namespace Mine
def manOf (k : Nat) : Int := if k = 0 then 9007199254740991 else if k = 1 then 4503599627370496 else 4503599627370497
def shOf (k : Nat) (d : Int) : Int := if k = 0 then 53 + d else 52 + d
def unitOf (k : Nat) (d : Int) : Int := 2 ^ (shOf k d).toNat

def bitsChk (b m sh U : Int) : Bool :=
  decide (Builtin.bitAnd b 9223372036854775807 = b) && decide (0 < b) && decide (b < 9218868437227405312) && decide (b.fdiv (2 ^ (63 : Int).toNat) = 0) && decide (b.fdiv (2 ^ (52 : Int).toNat) = 1075 - sh)
  && decide (Builtin.bitAnd (1075 - sh) 2047 = 1075 - sh) && decide (Builtin.bitAnd b 4503599627370495 = m - 4503599627370496) && decide (Builtin.bitOr (m - 4503599627370496) 4503599627370496 = m)
  && decide (1 ≤ sh) && decide (sh ≤ 115) && decide (0 ≤ m) && decide (m < U)
theorem bits_of_chk {b m sh : Int} (h : bitsChk b m sh (2 ^ sh.toNat) = true) : BitsOk b m sh (2 ^ sh.toNat) := by
  unfold bitsChk at h
  simp only [Bool.and_eq_true, decide_eq_true_eq] at h
  obtain ⟨⟨⟨⟨⟨⟨⟨⟨⟨⟨⟨h1, h2⟩, h3⟩, h4⟩, h5⟩, h6⟩, h7⟩, h8⟩, h9⟩, h10⟩, h11⟩, h12⟩ := h
  exact ⟨h1, h2, h3, h4, h5, h6, h7, h8, h9, h10, rfl, h11, h12⟩
theorem bits_all : (List.range 60).all (fun (j : Nat) =>
    let d : Int := (j : Int) + 1
    bitsChk ((1023 - d) * 2 ^ Int.toNat 52 - 1) (manOf 0) (shOf 0 d) (2 ^ (shOf 0 d).toNat) && bitsChk ((1023 - d) * 2 ^ Int.toNat 52) (manOf 1) (shOf 1 d) (2 ^ (shOf 1 d).toNat) && bitsChk ((1023 - d) * 2 ^ Int.toNat 52 + 1) (manOf 2) (shOf 2 d) (2 ^ (shOf 2 d).toNat)) = true := by decide +kernel
theorem bits_at {d : Int} (h0 : 1 ≤ d) (h1 : d ≤ 60) :
    bitsChk ((1023 - d) * 2 ^ Int.toNat 52 - 1) (manOf 0) (shOf 0 d) (2 ^ (shOf 0 d).toNat) = true ∧ bitsChk ((1023 - d) * 2 ^ Int.toNat 52) (manOf 1) (shOf 1 d) (2 ^ (shOf 1 d).toNat) = true ∧ bitsChk ((1023 - d) * 2 ^ Int.toNat 52 + 1) (manOf 2) (shOf 2 d) (2 ^ (shOf 2 d).toNat) = true := by
  have h := List.all_eq_true.mp bits_all (d - 1).toNat (List.mem_range.mpr (by omega))
  have e : (((d - 1).toNat : Nat) : Int) + 1 = d := by omega
  dsimp only at h
  rw [e] at h
  simp only [Bool.and_eq_true] at h
  exact ⟨h.1.1, h.1.2, h.2⟩
theorem bits_ok0 {d : Int} (h0 : 1 ≤ d) (h1 : d ≤ 60) : BitsOk ((1023 - d) * 2 ^ Int.toNat 52 - 1) (manOf 0) (shOf 0 d) (unitOf 0 d) := bits_of_chk (bits_at h0 h1).1
theorem bits_ok1 {d : Int} (h0 : 1 ≤ d) (h1 : d ≤ 60) : BitsOk ((1023 - d) * 2 ^ Int.toNat 52) (manOf 1) (shOf 1 d) (unitOf 1 d) := bits_of_chk (bits_at h0 h1).2.1
theorem bits_ok2 {d : Int} (h0 : 1 ≤ d) (h1 : d ≤ 60) : BitsOk ((1023 - d) * 2 ^ Int.toNat 52 + 1) (manOf 2) (shOf 2 d) (unitOf 2 d) := bits_of_chk (bits_at h0 h1).2.2
end Mine
end

section
open PySem PySem.W PyProof.Rows
set_option Elab.async false
namespace Mine
theorem valF_snoc (r : Int) (p : List Int) (x : Int) : valF r (p ++ [x]) = valF r p * r + x := by simp [valF]
theorem carriedF_last {r : Int} (p : List Int) : carriedF r (p ++ [r - 1]) = carriedF r p := by unfold carriedF; rw [strip_last]
theorem carriedF_stop {r x : Int} (p : List Int) (h : x ≠ r - 1) : carriedF r (p ++ [x]) = (p ++ [x + 1], 0) := by
  have hs := strip_stop p h
  have := cs_some (l := p ++ [x]) (ns := p ++ [x]) (r := r) rfl (by simp) (by rw [getD_last]; exact h)
  rw [this, getD_last]
  simp

structure Carry (r : Int) (f : List Int) (p : List Int × Int) : Prop where
  ex : (p.2 = 1 ∧ valF r f + 1 = r ^ f.length) ∨ (p.2 = 0 ∧ p.1 ≠ [] ∧ p.1.getLastD 0 ≠ 0 ∧ (∀ d ∈ p.1, 0 ≤ d ∧ d < r) ∧ ∃ j, p.1.length + j = f.length ∧ valF r p.1 * r ^ j = valF r f + 1)
theorem carry_of {r : Int} (hr : 2 ≤ r) : ∀ (n : Nat) (f : List Int), f.length = n → (∀ d ∈ f, 0 ≤ d ∧ d < r) → Carry r f (carriedF r f) := by
  intro n
  induction n with
  | zero =>
    intro f hn _
    have : f = [] := List.eq_nil_of_length_eq_zero hn
    subst this
    exact ⟨.inl ⟨rfl, by simp [valF]⟩⟩
  | succ n ih =>
    intro f hn hd
    obtain ⟨p, x, rfl⟩ := split_last (ns := f) (by intro e; subst e; simp at hn)
    have hpl : p.length = n := by rw [List.length_append, List.length_singleton] at hn; omega
    have hpd : ∀ d ∈ p, 0 ≤ d ∧ d < r := fun d h => hd d (List.mem_append_left _ h)
    have hx := hd x (List.mem_append_right _ (.head _))
    by_cases he : x = r - 1
    · subst he
      rw [carriedF_last]
      have h := (ih p hpl hpd).ex
      refine ⟨?_⟩
      rw [valF_snoc, List.length_append, List.length_singleton, Int.pow_succ]
      rcases h with ⟨h1, h2⟩ | ⟨h1, h2, h3, h4, j, h5, h6⟩
      · exact .inl ⟨h1, by rw [← h2]; grind⟩
      · exact .inr ⟨h1, h2, h3, h4, j + 1, by omega, by rw [Int.pow_succ, ← Int.mul_assoc, h6]; grind⟩
    · rw [carriedF_stop p he]
      refine ⟨.inr ⟨rfl, by simp, ?_, ?_, 0, by simp, ?_⟩⟩
      · show (p ++ [x + 1]).getLastD 0 ≠ 0
        rw [List.getLastD_concat]; omega
      · intro d hm
        rcases List.mem_append.mp hm with hm | hm
        · exact hpd d hm
        · rw [List.mem_singleton.mp hm]; omega
      · show valF r (p ++ [x + 1]) * r ^ 0 = valF r (p ++ [x]) + 1
        rw [valF_snoc, valF_snoc]; simp; omega

structure St (u r ρ b g rest gap below : Int) (f : List Int) : Prop where
  eq : valF r f * u + rest = ρ * r ^ f.length
  r0 : 0 ≤ rest
  r1 : rest < u
  gp : gap = g * r ^ f.length
  bl : below = b * r ^ f.length
  dg : ∀ d ∈ f, 0 ≤ d ∧ d < r
  ls : f = [] ∨ (f.getLastD 0 = 0 → below ≤ rest)
structure Good (u r ρ b g : Int) (p : List Int × Int) : Prop where
  c : p.2 = 0
  lo : ρ * r ^ p.1.length - valF r p.1 * u < b * r ^ p.1.length
  hi : valF r p.1 * u - ρ * r ^ p.1.length < g * r ^ p.1.length
  dg : ∀ d ∈ p.1, 0 ≤ d ∧ d < r
  len : p.1.length ≤ 100
  ls : p.1 = [] ∨ p.1.getLastD 0 ≠ 0

theorem St.next {u r ρ b g rest gap below : Int} {f : List Int} (h : St u r ρ b g rest gap below f) (hr : 2 ≤ r) (hb : 0 ≤ b) (hc : below ≤ rest) :
    St u r ρ b g (Int.fmod (rest * r) u) (gap * r) (below * r) (f ++ [Int.fdiv (rest * r) u]) := by
  have h0 := h.r0
  have h1 := h.r1
  have hu : 0 < u := by omega
  have e1 : Int.fdiv (rest * r) u = rest * r / u := Int.fdiv_eq_ediv_of_nonneg _ (by omega)
  have e2 : Int.fmod (rest * r) u = rest * r % u := Int.fmod_eq_emod_of_nonneg _ (by omega)
  have e3 := Int.mul_ediv_add_emod (rest * r) u
  have m0 : 0 ≤ rest * r := Int.mul_nonneg h0 (by omega)
  have d0 : 0 ≤ rest * r / u := Int.ediv_nonneg m0 (by omega)
  have m1 : rest * r < u * r := Int.mul_lt_mul_of_pos_right h1 (by omega)
  have d1 : rest * r / u < r := Int.ediv_lt_of_lt_mul hu (by rw [Int.mul_comm r u]; exact m1)
  rw [e1, e2]
  refine ⟨?_, Int.emod_nonneg _ (by omega), Int.emod_lt_of_pos _ hu, ?_, ?_, ?_, ?_⟩
  · rw [valF_snoc, List.length_append, List.length_singleton, Int.pow_succ, ← Int.mul_assoc, ← h.eq]
    grind
  · rw [List.length_append, List.length_singleton, Int.pow_succ, h.gp, Int.mul_assoc]
  · rw [List.length_append, List.length_singleton, Int.pow_succ, h.bl, Int.mul_assoc]
  · intro d hm
    rcases List.mem_append.mp hm with hm | hm
    · exact h.dg d hm
    · rw [List.mem_singleton.mp hm]; exact ⟨d0, d1⟩
  · refine .inr fun e => ?_
    rw [List.getLastD_concat] at e
    rw [e] at e3
    have : below * r ≤ rest * r := Int.mul_le_mul_of_nonneg_right hc (by omega)
    omega

theorem St.stop {u r ρ b g rest gap below : Int} {f : List Int} (h : St u r ρ b g rest gap below f) (hr : 2 ≤ r) (hg : 0 < g) (hl : f.length ≤ 100) (hc : rest < below) : Good u r ρ b g (f, 0) := by
  have h0 := h.r0
  have he := h.eq
  have hp : 0 < r ^ f.length := Int.pow_pos (by omega)
  refine ⟨rfl, ?_, ?_, h.dg, hl, ?_⟩
  · show ρ * r ^ f.length - valF r f * u < b * r ^ f.length
    rw [← h.bl, ← he]; omega
  · show valF r f * u - ρ * r ^ f.length < g * r ^ f.length
    have := Int.mul_pos hg hp
    rw [← he]; omega
  · rcases h.ls with e | e
    · exact .inl e
    · refine .inr fun q => ?_
      have := e q
      omega

theorem neg_of_mul {X J : Int} (hJ : 0 < J) (h : X * J < 0) : X < 0 := by
  false_or_by_contra
  rename_i hc
  have := Int.mul_nonneg (Int.not_lt.mp hc) (Int.le_of_lt hJ)
  omega
theorem pow_ge {r : Int} (hr : 3 ≤ r) : ∀ n : Nat, (3 : Int) ^ n ≤ r ^ n
  | 0 => by simp
  | n + 1 => by
    have ih := pow_ge hr n
    have h0 : (0 : Int) < 3 ^ n := Int.pow_pos (by decide)
    rw [Int.pow_succ, Int.pow_succ]
    have h1 : (3 : Int) ^ n * 3 ≤ r ^ n * 3 := Int.mul_le_mul_of_nonneg_right ih (by decide)
    have h2 : r ^ n * 3 ≤ r ^ n * r := Int.mul_le_mul_of_nonneg_left hr (by omega)
    omega
theorem St.up {u r ρ b g rest gap below : Int} {f : List Int} (h : St u r ρ b g rest gap below f) (hr : 2 ≤ r) (hb : 0 < b) (hg : g ≤ u - ρ) (hl : f.length ≤ 100) (hc : u < rest + gap) : Good u r ρ b g (carriedF r f) := by
  have h1 := h.r1
  have he := h.eq
  have hgp := h.gp
  have hC := (carry_of hr _ f rfl h.dg).ex
  have hp : 0 < r ^ f.length := Int.pow_pos (by omega)
  rcases hC with ⟨c1, c2⟩ | ⟨c1, c2, c3, c4, j, c5, c6⟩
  · exfalso
    have k1 : r ^ f.length * u - ρ * r ^ f.length < g * r ^ f.length := by
      have e1 : r ^ f.length * u = valF r f * u + u := by rw [← c2]; grind
      rw [e1, ← he, ← hgp]; omega
    have k2 : g * r ^ f.length ≤ (u - ρ) * r ^ f.length := Int.mul_le_mul_of_nonneg_right hg (by omega)
    have k3 : (u - ρ) * r ^ f.length = r ^ f.length * u - ρ * r ^ f.length := by grind
    omega
  · have hj : 0 < r ^ j := Int.pow_pos (by omega)
    have hk : 0 < r ^ (carriedF r f).1.length := Int.pow_pos (by omega)
    have hpw : r ^ f.length = r ^ (carriedF r f).1.length * r ^ j := by rw [← Int.pow_add, c5]
    rw [hpw] at he hgp
    refine ⟨c1, ?_, ?_, c4, by omega, .inr c3⟩
    · generalize r ^ (carriedF r f).1.length = K at he hgp hk ⊢
      generalize valF r (carriedF r f).1 = W at c6 ⊢
      generalize r ^ j = J at he hgp c6 hj ⊢
      have t1 : (ρ * K - W * u) * J = rest - u := by grind
      have t2 : ρ * K - W * u < 0 := neg_of_mul hj (by omega)
      have t3 := Int.mul_pos hb hk
      omega
    · generalize r ^ (carriedF r f).1.length = K at he hgp hk ⊢
      generalize valF r (carriedF r f).1 = W at c6 ⊢
      generalize r ^ j = J at he hgp c6 hj ⊢
      have t1 : (W * u - ρ * K - g * K) * J = u - rest - gap := by grind
      have t2 : W * u - ρ * K - g * K < 0 := neg_of_mul hj (by omega)
      omega

theorem rf_good {u r ρ b g : Int} (hr : 3 ≤ r) (hb : 1 ≤ b) (hg0 : 0 < g) (hg : g ≤ u - ρ) (hu : u ≤ 2 ^ 120) : ∀ (m : Nat) (rest gap below : Int) (f : List Int), f.length + m = 100 → St u r ρ b g rest gap below f →
    Good u r ρ b g (rf u r m rest gap below f) := by
  intro m
  induction m with
  | zero =>
    intro rest gap below f hl h
    rw [rf]
    refine h.stop (by omega) hg0 (by omega) ?_
    have hl' : f.length = 100 := by omega
    have hbl := h.bl
    have h1 := h.r1
    rw [hl'] at hbl
    have p0 : (3 : Int) ^ 100 ≤ r ^ 100 := pow_ge hr 100
    have p1 : (2 : Int) ^ 120 < 3 ^ 100 := by decide
    have p2 : 1 * r ^ 100 ≤ b * r ^ 100 := Int.mul_le_mul_of_nonneg_right hb (by omega)
    omega
  | succ m ih =>
    intro rest gap below f hl h
    rw [rf]
    split
    · exact h.stop (by omega) hg0 (by omega) (by assumption)
    · rename_i hc
      have hn := h.next (by omega) (by omega) (Int.not_lt.mp hc)
      dsimp only
      split
      · rename_i hq
        exact hn.up (by omega) (by omega) hg (by rw [List.length_append, List.length_singleton]; omega) hq.2
      · exact ih _ _ _ _ (by rw [List.length_append, List.length_singleton]; omega) hn
end Mine
end

section
open PySem PySem.W PyProof.Rows
set_option Elab.async false
set_option maxRecDepth 100000
namespace Mine
def figsOf (k : Nat) (d r : Int) : List Int := (rf (4 * unitOf k d) r 100 (4 * manOf k) 2 (if manOf k = 4503599627370496 then 1 else 2) []).1
theorem unit_pos (k : Nat) (d : Int) : 0 < unitOf k d := Int.pow_pos (by decide)
theorem unit1 {d : Int} (h0 : 1 ≤ d) : unitOf 1 d = 4503599627370496 * 2 ^ d.toNat := by
  show (2 : Int) ^ (52 + d).toNat = _
  have e : (52 + d).toNat = 52 + d.toNat := by omega
  rw [e, Int.pow_add]; rfl
theorem unit2 {d : Int} (h0 : 1 ≤ d) : unitOf 2 d = 4503599627370496 * 2 ^ d.toNat := unit1 h0
theorem unit0 {d : Int} (h0 : 1 ≤ d) : unitOf 0 d = 9007199254740992 * 2 ^ d.toNat := by
  show (2 : Int) ^ (53 + d).toNat = _
  have e : (53 + d).toNat = 53 + d.toNat := by omega
  rw [e, Int.pow_add]; rfl
theorem good_of (k : Nat) {d r : Int} (h3 : 3 ≤ r) (hm : manOf k < unitOf k d) (hu : unitOf k d ≤ 2 ^ 115) :
    Good (4 * unitOf k d) r (4 * manOf k) (if manOf k = 4503599627370496 then 1 else 2) 2 (rf (4 * unitOf k d) r 100 (4 * manOf k) 2 (if manOf k = 4503599627370496 then 1 else 2) []) := by
  have h0 : 0 < manOf k := by unfold manOf; split <;> (try split) <;> omega
  refine rf_good h3 (by split <;> omega) (by omega) (by omega) (by omega) 100 _ _ _ [] rfl ⟨?_, by omega, by omega, by simp, by simp, by simp, .inl rfl⟩
  simp [valF]
theorem good_at (k : Nat) (hk : k ≤ 2) {d r : Int} (h0 : 1 ≤ d) (h1 : d ≤ 60) (h3 : 3 ≤ r) :
    Good (4 * unitOf k d) r (4 * manOf k) (if manOf k = 4503599627370496 then 1 else 2) 2 (rf (4 * unitOf k d) r 100 (4 * manOf k) 2 (if manOf k = 4503599627370496 then 1 else 2) []) := by
  rcases (show k = 0 ∨ k = 1 ∨ k = 2 by omega) with rfl | rfl | rfl
  · exact good_of 0 h3 (bits_ok0 h0 h1).man1 (bits_ok0 h0 h1).ule
  · exact good_of 1 h3 (bits_ok1 h0 h1).man1 (bits_ok1 h0 h1).ule
  · exact good_of 2 h3 (bits_ok2 h0 h1).man1 (bits_ok2 h0 h1).ule
theorem figs_ok (k : Nat) (hk : k ≤ 2) {d r : Int} (h0 : 1 ≤ d) (h1 : d ≤ 60) (h3 : 3 ≤ r) (h36 : r ≤ 36) : FigsOk (unitOf k d) r (manOf k) (figsOf k d r) := by
  have G := good_at k hk h0 h1 h3
  have hm : 2 ≤ manOf k := by unfold manOf; split <;> (try split) <;> omega
  refine ⟨?_, ?_, G.len, fun x hx => ⟨(G.dg x hx).1, by have := (G.dg x hx).2; omega⟩⟩
  · have hc := G.c
    unfold figsOf
    rw [← hc]
  · have hlo := G.lo
    cases hq : (rf (4 * unitOf k d) r 100 (4 * manOf k) 2 (if manOf k = 4503599627370496 then 1 else 2) []).1 with
    | nil =>
      rw [hq] at hlo
      simp [valF] at hlo
      split at hlo <;> omega
    | cons a l =>
      show 0 < (((rf (4 * unitOf k d) r 100 (4 * manOf k) 2 (if manOf k = 4503599627370496 then 1 else 2) []).1).length : Int)
      rw [hq, List.length_cons]; omega
theorem figs_figs (k : Nat) (hk : k ≤ 2) {d r : Int} (h0 : 1 ≤ d) (h1 : d ≤ 60) (h3 : 3 ≤ r) (h36 : r ≤ 36) : Figs (figsOf k d r) := (figs_ok k hk h0 h1 h3 h36).figs

theorem figCp_inj {a b : Int} (ha : 0 ≤ a ∧ a < 36) (hb : 0 ≤ b ∧ b < 36) (h : figCp a = figCp b) : a = b := by
  unfold figCp at h; split at h <;> split at h <;> omega
theorem map_inj : ∀ {a b : List Int}, Figs a → Figs b → a.map figCp = b.map figCp → a = b
  | [], [], _, _, _ => rfl
  | [], _ :: _, _, _, h => by simp at h
  | _ :: _, [], _, _, h => by simp at h
  | x :: a, y :: b, ha, hb, h => by
    simp only [List.map_cons, List.cons.injEq] at h
    rw [figCp_inj (ha x (.head _)) (hb y (.head _)) h.1, map_inj (fun d hd => ha d (.tail _ hd)) (fun d hd => hb d (.tail _ hd)) h.2]
theorem txt_inj {a b : List Int} (ha : Figs a) (hb : Figs b) (h : txtF a = txtF b) : a = b := by
  have h1 : (48 :: 46 :: a.map figCp) = (48 :: 46 :: b.map figCp) := by
    have := congrArg (fun x : Str => x.cps.toList) h
    simpa [txtF] using this
  simp only [List.cons.injEq, true_and] at h1
  exact map_inj ha hb h1

theorem lo0 {d r : Int} (h0 : 1 ≤ d) (h1 : d ≤ 60) (h3 : 3 ≤ r) : valF r (figsOf 0 d r) * (18014398509481984 * 2 ^ d.toNat) < 18014398509481983 * r ^ (figsOf 0 d r).length := by
  have hi := (good_at 0 (by decide) h0 h1 h3 (r := r)).hi
  change valF r (figsOf 0 d r) * _ - _ * r ^ (figsOf 0 d r).length < _ * r ^ (figsOf 0 d r).length at hi
  rw [unit0 h0] at hi
  have e : manOf 0 = 9007199254740991 := rfl
  rw [e] at hi
  generalize valF r (figsOf 0 d r) = V at hi ⊢
  generalize r ^ (figsOf 0 d r).length = K at hi ⊢
  generalize (2 : Int) ^ d.toNat = D at hi ⊢
  have e2 : V * (4 * (9007199254740992 * D)) = 2 * (V * (18014398509481984 * D)) := by grind
  omega
theorem lo1 {d r : Int} (h0 : 1 ≤ d) (h1 : d ≤ 60) (h3 : 3 ≤ r) :
    18014398509481984 * r ^ (figsOf 1 d r).length - valF r (figsOf 1 d r) * (18014398509481984 * 2 ^ d.toNat) < r ^ (figsOf 1 d r).length ∧
    valF r (figsOf 1 d r) * (18014398509481984 * 2 ^ d.toNat) - 18014398509481984 * r ^ (figsOf 1 d r).length < 2 * r ^ (figsOf 1 d r).length := by
  have G := good_at 1 (by decide) h0 h1 h3 (r := r)
  have lo := G.lo
  have hi := G.hi
  change _ * r ^ (figsOf 1 d r).length - valF r (figsOf 1 d r) * _ < _ * r ^ (figsOf 1 d r).length at lo
  change valF r (figsOf 1 d r) * _ - _ * r ^ (figsOf 1 d r).length < _ * r ^ (figsOf 1 d r).length at hi
  have e : manOf 1 = 4503599627370496 := rfl
  rw [unit1 h0] at lo hi
  rw [e] at lo hi
  rw [if_pos rfl] at lo
  generalize valF r (figsOf 1 d r) = V at lo hi ⊢
  generalize r ^ (figsOf 1 d r).length = K at lo hi ⊢
  generalize (2 : Int) ^ d.toNat = D at lo hi ⊢
  have e2 : V * (4 * (4503599627370496 * D)) = V * (18014398509481984 * D) := by grind
  omega
theorem lo2 {d r : Int} (h0 : 1 ≤ d) (h1 : d ≤ 60) (h3 : 3 ≤ r) : 18014398509481986 * r ^ (figsOf 2 d r).length < valF r (figsOf 2 d r) * (18014398509481984 * 2 ^ d.toNat) := by
  have lo := (good_at 2 (by decide) h0 h1 h3 (r := r)).lo
  change _ * r ^ (figsOf 2 d r).length - valF r (figsOf 2 d r) * _ < _ * r ^ (figsOf 2 d r).length at lo
  rw [unit2 h0] at lo
  have e : manOf 2 = 4503599627370497 := rfl
  rw [e] at lo
  rw [if_neg (by decide)] at lo
  generalize valF r (figsOf 2 d r) = V at lo ⊢
  generalize r ^ (figsOf 2 d r).length = K at lo ⊢
  generalize (2 : Int) ^ d.toNat = D at lo ⊢
  have e2 : V * (4 * (4503599627370496 * D)) = V * (18014398509481984 * D) := by grind
  omega
theorem ne01 {d r : Int} (h0 : 1 ≤ d) (h1 : d ≤ 60) (h3 : 3 ≤ r) (h36 : r ≤ 36) : txtF (figsOf 0 d r) ≠ txtF (figsOf 1 d r) := by
  intro h
  have e := txt_inj (figs_figs 0 (by decide) h0 h1 h3 h36) (figs_figs 1 (by decide) h0 h1 h3 h36) h
  have a := lo0 h0 h1 h3 (r := r)
  have b := (lo1 h0 h1 h3 (r := r)).1
  rw [e] at a
  omega
theorem ne12 {d r : Int} (h0 : 1 ≤ d) (h1 : d ≤ 60) (h3 : 3 ≤ r) (h36 : r ≤ 36) : txtF (figsOf 1 d r) ≠ txtF (figsOf 2 d r) := by
  intro h
  have e := txt_inj (figs_figs 1 (by decide) h0 h1 h3 h36) (figs_figs 2 (by decide) h0 h1 h3 h36) h
  have a := (lo1 h0 h1 h3 (r := r)).2
  have b := lo2 h0 h1 h3 (r := r)
  rw [← e] at b
  omega
theorem ne02 {d r : Int} (h0 : 1 ≤ d) (h1 : d ≤ 60) (h3 : 3 ≤ r) (h36 : r ≤ 36) : txtF (figsOf 0 d r) ≠ txtF (figsOf 2 d r) := by
  intro h
  have e := txt_inj (figs_figs 0 (by decide) h0 h1 h3 h36) (figs_figs 2 (by decide) h0 h1 h3 h36) h
  have a := lo0 h0 h1 h3 (r := r)
  have b := lo2 h0 h1 h3 (r := r)
  have hp : 0 < r ^ (figsOf 2 d r).length := Int.pow_pos (by omega)
  rw [e] at a
  omega
theorem last_ne {d r : Int} (h0 : 1 ≤ d) (h1 : d ≤ 60) (h3 : 3 ≤ r) (h36 : r ≤ 36) : Txt.item (figT (figsOf 1 d r)) (-1) ≠ Str.ofString "0" := by
  have F := figs_ok 1 (by decide) h0 h1 h3 h36
  have G := (good_at 1 (by decide) h0 h1 h3 (r := r)).ls
  change figsOf 1 d r = [] ∨ (figsOf 1 d r).getLastD 0 ≠ 0 at G
  have hs := F.some
  have hf := F.figs
  generalize figsOf 1 d r = ds at hs hf G
  obtain ⟨p, x, rfl⟩ := split_last (len_pos hs)
  have hx := hf x (List.mem_append_right _ (.head _))
  have hx0 : x ≠ 0 := by
    rcases G with G | G
    · simp at G
    · rwa [List.getLastD_concat] at G
  have e : figT (p ++ [x]) = Str.empty ++ ⟨(p.map figCp ++ [figCp x]).toArray⟩ := by rw [KT.empty_app]; simp [figT]
  rw [e, item_last_right]
  intro h
  have h2 := congrArg (fun z : Str => z.cps.toList) h
  have h3 : (Str.ofString "0").cps.toList = [48] := by decide +kernel
  simp only [h3] at h2
  simp at h2
  unfold figCp at h2
  split at h2 <;> omega
theorem near_le {d r : Int} (h0 : 1 ≤ d) (h1 : d ≤ 60) (h3 : 3 ≤ r) : (r ^ (figsOf 1 d r).length - valF r (figsOf 1 d r) * 2 ^ d.toNat) * 18014398509481984 < r ^ (figsOf 1 d r).length := by
  have a := (lo1 h0 h1 h3 (r := r)).1
  generalize valF r (figsOf 1 d r) = V at a ⊢
  generalize r ^ (figsOf 1 d r).length = K at a ⊢
  generalize (2 : Int) ^ d.toNat = D at a ⊢
  have e2 : V * (18014398509481984 * D) = V * D * 18014398509481984 := by grind
  omega
theorem near_gt {d r : Int} (h0 : 1 ≤ d) (h1 : d ≤ 60) (h3 : 3 ≤ r) : (valF r (figsOf 1 d r) * 2 ^ d.toNat - r ^ (figsOf 1 d r).length) * 9007199254740992 < r ^ (figsOf 1 d r).length := by
  have a := (lo1 h0 h1 h3 (r := r)).2
  generalize valF r (figsOf 1 d r) = V at a ⊢
  generalize r ^ (figsOf 1 d r).length = K at a ⊢
  generalize (2 : Int) ^ d.toNat = D at a ⊢
  have e2 : V * (18014398509481984 * D) = V * D * 18014398509481984 := by grind
  omega
end Mine
end

section
open PySem PySem.W PyProof.Rows PySem.Calls
set_option Elab.async false
set_option maxRecDepth 100000
namespace Mine
theorem no01 {d r : Int} (h0 : 1 ≤ d) (h1 : d ≤ 60) (h3 : 3 ≤ r) (h36 : r ≤ 36) : ¬ ((txtF (figsOf 0 d r) == txtF (figsOf 1 d r)) = true) := fun h => ne01 h0 h1 h3 h36 (eq_of_beq h)
theorem no12 {d r : Int} (h0 : 1 ≤ d) (h1 : d ≤ 60) (h3 : 3 ≤ r) (h36 : r ≤ 36) : ¬ ((txtF (figsOf 1 d r) == txtF (figsOf 2 d r)) = true) := fun h => ne12 h0 h1 h3 h36 (eq_of_beq h)
theorem no02 {d r : Int} (h0 : 1 ≤ d) (h1 : d ≤ 60) (h3 : 3 ≤ r) (h36 : r ≤ 36) : ¬ ((txtF (figsOf 0 d r) == txtF (figsOf 2 d r)) = true) := fun h => ne02 h0 h1 h3 h36 (eq_of_beq h)
theorem noLast {d r : Int} (h0 : 1 ≤ d) (h1 : d ≤ 60) (h3 : 3 ≤ r) (h36 : r ≤ 36) : ¬ ((Txt.item (figT (figsOf 1 d r)) (-1) == Str.ofString "0") = true) := fun h => last_ne h0 h1 h3 h36 (eq_of_beq h)
theorem figT_length (ds : List Int) : (figT ds).length = ds.length := by simp [figT, Str.length]
theorem txtF_length (ds : List Int) : (txtF ds).length = ds.length + 2 := by simp [txtF, Str.length]
section
variable {prog : Program} {w : World} {A : Around} {E : Value → Shared → Prop} {s : Shared} {h₀ : Heap} {L : Addr} {m : Str → Option Value} {news : List (Addr × Obj)} {value slice : PySem.Expr} {t u : Tok} {Q : Value → Shared → Prop} {ds : List Int}
theorem item_last {d r : Int} (h0 : 1 ≤ d) (h1 : d ≤ 60) (h3 : 3 ≤ r) (h36 : r ≤ 36) (h : Q (.str (Txt.item (figT (figsOf 1 d r)) (-1)) s.toks) { s with toks := s.toks + 1 })
    (hs : subscripted slice false (.str (figT (figsOf 1 d r)) t) (.int (-1) u) = operate [.str (figT (figsOf 1 d r)) t, .int (-1) u] (getItem (.str (figT (figsOf 1 d r)) t) (.int (-1) u)))
    (ht : ∀ q, letTemporaryGo value (.str (figT (figsOf 1 d r)) t) q = pure ()) :
    wpAny (model prog w) A (subscriptTail value slice (.str (figT (figsOf 1 d r)) t) (.int (-1) u)) Q E s := by
  have F := figs_ok 1 (by decide) h0 h1 h3 h36
  have e1 := F.some
  have e2 := F.len
  exact KXi.item (n := (figsOf 1 d r).length) (figT_length _) (by omega) (by omega) (by omega) (fun _ => h) hs ht
theorem split_fig (hF : Fr h₀ L s.heap m) (hN : News h₀ L s.heap news) (hf : Figs ds) (hl : ds.length ≤ 100)
    (h : ∀ D t1 t2 h' k, Fr h₀ L h' m → News h₀ L h' ((D, listOf [Value.str (Str.ofString "0") t1, Value.str (figT ds) t2].toArray 0) :: news) → (∀ p ∈ news, p.1 < D) → Q (.ref D) { s with heap := h', toks := k }) :
    wpAny (model prog w) A (call (.builtin "str.split") [.str (txtF ds) t, .str (Str.ofString ".") u]) Q E s := by
  refine KSpl.split1 hF hN (by decide +kernel) (fun D l h' k e _ F' N' l1 => ?_) (by rw [txtF_length, PySem.sizeLine_eq]; omega)
  rw [split_txt hf] at e
  obtain ⟨t1, l', rfl, e'⟩ := KSpl.cons_of e
  obtain ⟨t2, l'', rfl, e''⟩ := KSpl.cons_of e'
  have e3 := KSpl.nil_of e''
  subst e3
  exact h D t1 t2 h' k F' N' l1
theorem split_law {d r : Int} (hF : Fr h₀ L s.heap m) (hN : News h₀ L s.heap news) (h0 : 1 ≤ d) (h1 : d ≤ 60) (h3 : 3 ≤ r) (h36 : r ≤ 36)
    (h : ∀ D t1 t2 h' k, Fr h₀ L h' m → News h₀ L h' ((D, listOf [Value.str (Str.ofString "0") t1, Value.str (figT (figsOf 1 d r)) t2].toArray 0) :: news) → (∀ p ∈ news, p.1 < D) → Q (.ref D) { s with heap := h', toks := k }) :
    wpAny (model prog w) A (call (.builtin "str.split") [.str (txtF (figsOf 1 d r)) t, .str (Str.ofString ".") u]) Q E s :=
  split_fig hF hN (figs_ok 1 (by decide) h0 h1 h3 h36).figs (figs_ok 1 (by decide) h0 h1 h3 h36).len h
theorem mod_60 {a : Int} (h : ∀ x, 1 ≤ 1 + x → 1 + x ≤ 60 → 0 ≤ 1 + x → Q (.int x s.toks) { s with toks := s.toks + 1 }) : wpAny (model prog w) A (binaryOp .Mod (.int a t) (.int 60 u)) Q E s :=
  mod_any (by decide) fun x h0 h1 => h x (by omega) (by omega) (by omega)
theorem mod_34 {a : Int} (h : ∀ x, 3 ≤ 3 + x → 3 + x ≤ 36 → Q (.int x s.toks) { s with toks := s.toks + 1 }) : wpAny (model prog w) A (binaryOp .Mod (.int a t) (.int 34 u)) Q E s :=
  mod_any (by decide) fun x h0 h1 => h x (by omega) (by omega)
theorem mul_pow {a n : Int} (h0 : 0 ≤ n) (h1 : n ≤ 60) (hQ : Q (.int (a * 2 ^ n.toNat) s.toks) { s with toks := s.toks + 1 }) : wpAny (model prog w) A (binaryOp .Mult (.int a t) (.int (2 ^ n.toNat) u)) Q E s := by
  refine mul_int hQ (IntMulOk.of_right (intBits_le_64 ?_ ?_))
  · have : (0 : Int) < 2 ^ n.toNat := Int.pow_pos (by decide)
    omega
  · have h2 : 2 ^ n.toNat ≤ 2 ^ 60 := Nat.pow_le_pow_right (by decide) (by omega : n.toNat ≤ 60)
    have h3 : (2 : Int) ^ n.toNat ≤ 2 ^ 60 := by exact_mod_cast h2
    omega
theorem lt_true {a b : Int} (h : a < b) (hQ : Q (.bool true) s) : wpAny (model prog w) A (compareOp .Lt (.int a t) (.int b u)) Q E s := lt_int (by rw [decide_eq_true h]; exact hQ)
end
theorem near1 {d r whole unit : Int} (h0 : 1 ≤ d) (h1 : d ≤ 60) (h3 : 3 ≤ r) (h : WInv r (figsOf 1 d r) (KStt.codes (figT (figsOf 1 d r))) whole unit) : (unit - whole * 2 ^ d.toNat) * 2 ^ Int.toNat 54 < unit := by
  obtain ⟨rfl, rfl⟩ := h.done
  exact near_le h0 h1 h3
theorem near2 {d r whole unit : Int} (h0 : 1 ≤ d) (h1 : d ≤ 60) (h3 : 3 ≤ r) (h : WInv r (figsOf 1 d r) (KStt.codes (figT (figsOf 1 d r))) whole unit) : (whole * 2 ^ d.toNat - unit) * 2 ^ Int.toNat 53 < unit := by
  obtain ⟨rfl, rfl⟩ := h.done
  exact near_gt h0 h1 h3
end Mine
end

open PySem PySem.W PyProof.Rows
set_option Elab.async false
set_option maxRecDepth 100000
set_option maxHeartbeats 8000000
open Mine
local macro_rules | `(tactic| l_ints) => `(tactic| first | (with_reducible assumption) | (with_reducible exact IntsAre.nil) | (with_reducible exact IntsAre.cons _ _ (by l_ints)))
local macro_rules | `(tactic| walk_at "call builtin:len") => `(tactic| (k_here; (with_reducible show wpAny _ _ (call (Value.builtin "len") [Value.ref _]) _ _ _); (with_unfolding_all refine' len_ints_fit ?k1 ?k2 ?k3 ?_; (case k1 => exact News.isList (by k_asm) (by k_mem)); (case k2 => with_reducible assumption); (case k3 => omega); k_whole)))
set_option hygiene false in
local macro_rules | `(tactic| walk_at "binaryOp Mod int int") => `(tactic| (k_here; (with_reducible show wpAny _ _ (binaryOp Operator.Mod (Value.int _ _) (Value.int 60 _)) _ _ _); (refine mod_60 ?_); intro xD hD0 hD1 hD2; (try k_fold)))
set_option hygiene false in
local macro_rules | `(tactic| walk_at "binaryOp Mod int int") => `(tactic| (k_here; (with_reducible show wpAny _ _ (binaryOp Operator.Mod (Value.int _ _) (Value.int 34 _)) _ _ _); (refine mod_34 ?_); intro xR hR0 hR1; (try k_fold)))
local macro_rules | `(tactic| walk_at "exec Assign cons ListComp") => `(tactic| (k_here; k_dflt (refine comp_tuple (hF0 := by k_asm) (by rfl) (by with_unfolding_all rfl) (by with_unfolding_all rfl) (by decide) (by rfl) (by decide) (by rfl) (by rfl) (by rfl) ?_)))
local macro_rules | `(tactic| walk_at "TupSrc") => `(tactic| (k_dflt (refine ⟨_, _, _, _, rfl, by rfl, by k_asm, by k_asm, by k_mem, Nat.le_of_ble_eq_true rfl, ?_⟩); intro g'; lcg_lit))
local macro_rules | `(tactic| lcg_src) => `(tactic| k_mem)
local macro_rules | `(tactic| walk_at "call ref") => `(tactic| (k_here; (with_reducible show wpAny _ _ (call (Value.ref 75) [Value.int _ _, Value.int _ _]) _ _ _); k_dflt (refine' radix_call ?cB ?cF ?cK ?cN ?cT ?ck ?cd ?cu ?ca ?cb ?cr ?cs ?_; (case cB => k_asm); (case cF => k_asm); (case cK => k_asm); (case cN => k_asm); (case cT => k_asm); (case ck => exact rfl); (case cd => ktr_room); (case cu => ktr_units); (case ca => first | exact bits_ok0 (by with_reducible assumption) (by with_reducible assumption) | exact bits_ok2 (by with_reducible assumption) (by with_reducible assumption) | exact bits_ok1 (by with_reducible assumption) (by with_reducible assumption)); (case cb => exact figs_ok _ (by decide) (by with_reducible assumption) (by with_reducible assumption) (by with_reducible assumption) (by with_reducible assumption)); (case cr => with_reducible assumption); (case cs => with_reducible assumption)); (intro ct ch ctk cFr cNw); (try k_fold)))
local macro_rules | `(tactic| walk_at "subscriptTail") => `(tactic| (k_here; (with_reducible show wpAny _ _ (subscriptTail (PySem.Expr.List _ _) (PySem.Expr.Slice _ _ _ _) (Value.ref _) (Value.ref _)) _ _ _); k_dflt (refine kba_turn (value' := PySem.Expr.Name (PySem.Str.ofString "_") ⟨0, 0, 0, 0⟩) (fun _ => rfl) ?_)))
local macro_rules | `(tactic| walk_at "subscriptTail Name Slice ref ref") => `(tactic| (k_here; (with_reducible show wpAny _ _ (subscriptTail _ (PySem.Expr.Slice _ _ none _) (Value.ref _) (Value.ref _)) _ _ _); k_dflt (refine' kmk_slice_ints ?F ?N ?l ?p ?q ?i ?m ?c ?_ ?s ?t ?z; (case F => k_asm); (case N => k_asm); (case l => kmk_list); (case p => kmk_part); (case q => kmk_part); (case i => l_ints); (case m => kmk_nums); (case c => kmk_len); (case s => with_unfolding_all rfl); (case t => kmk_pure); (case z => kmk_size)); intro D' ws' h' F' N' l1 hI' hC' hL'; (try simp only [Int.reduceNeg, Int.neg_neg, Int.reduceToNat] at hI' hC' hL'); (try k_lt l1); (try k_sweep)))
local macro_rules | `(tactic| walk_at "subscriptTail Name Slice ref ref") => `(tactic| (k_here; (with_reducible show wpAny _ _ (subscriptTail (PySem.Expr.Name (PySem.Str.ofString "_") _) (PySem.Expr.Slice _ _ none _) (Value.ref _) (Value.ref _)) _ _ _); k_dflt (refine' kmk_slice_ints ?F ?N ?l ?p ?q ?i ?m ?c ?_ ?s ?t ?z; (case F => k_asm); (case N => k_asm); (case l => kmk_list); (case p => kmk_part); (case q => kmk_part); (case i => (with_reducible exact IntsAre.cons _ _ (IntsAre.cons _ _ IntsAre.nil))); (case m => exact kmk_from (by (with_reducible exact IntsAre.cons _ _ (IntsAre.cons _ _ IntsAre.nil))) (by omega)); (case c => kmk_len); (case s => with_unfolding_all rfl); (case t => kmk_pure); (case z => kmk_size)); intro D' ws' h' F' N' l1 hI' hC' hL'; (try k_lt l1); (try k_sweep)))
local macro_rules | `(tactic| walk_at "subscriptTail Name Constant ref int") => `(tactic| (k_here; (with_reducible show wpAny _ _ (subscriptTail (PySem.Expr.Name (Str.ofString "texts") _) _ (Value.ref _) (Value.int _ _)) _ _ _); (with_unfolding_all refine kim_list (l := [Value.str _ _, Value.str _ _, Value.str _ _]) (by k_asm) (by k_mem) (by rfl) (by rfl) (by decide) (by decide) (by rfl) ?_)))
local macro_rules | `(tactic| walk_at "ite") => `(tactic| (k_here; first
  | (refine ite_neg (no01 (by with_reducible assumption) (by with_reducible assumption) (by with_reducible assumption) (by with_reducible assumption)) ?_; walk_say "MINE")
  | (refine ite_neg (no12 (by with_reducible assumption) (by with_reducible assumption) (by with_reducible assumption) (by with_reducible assumption)) ?_; walk_say "MINE")
  | (refine ite_neg (no02 (by with_reducible assumption) (by with_reducible assumption) (by with_reducible assumption) (by with_reducible assumption)) ?_; walk_say "MINE")
  | (refine ite_neg (noLast (by with_reducible assumption) (by with_reducible assumption) (by with_reducible assumption) (by with_reducible assumption)) ?_; walk_say "MINE")))
local macro_rules | `(tactic| walk_at "call builtin:str.split") => `(tactic| (k_here; (with_reducible show wpAny _ _ (call (Value.builtin "str.split") [Value.str (txtF _) _, Value.str _ _]) _ _ _); (refine' split_law ?k1 ?k2 ?k3 ?k4 ?k5 ?k6 ?_; (case k1 => k_asm); (case k2 => k_asm); (case k3 => with_reducible assumption); (case k4 => with_reducible assumption); (case k5 => with_reducible assumption); (case k6 => with_reducible assumption)); intro D' t1' t2' h' k' F' N' l1; (try k_lt l1)))
local macro_rules | `(tactic| walk_at "subscriptTail") => `(tactic| (k_here; (with_reducible show wpAny _ _ (subscriptTail _ _ (Value.str (figT _) _) (Value.int _ _)) _ _ _); (with_unfolding_all refine' item_last ?k1 ?k2 ?k3 ?k4 ?_ ?k5 ?k6; (case k1 => with_reducible assumption); (case k2 => with_reducible assumption); (case k3 => with_reducible assumption); (case k4 => with_reducible assumption); (case k5 => rfl); (case k6 => intro _; rfl))))
local macro_rules | `(tactic| walk_at "call builtin:str.index") => `(tactic| (k_here; (refine index_fig (by rfl) (by assumption) (figs_figs 1 (by decide) (by with_reducible assumption) (by with_reducible assumption) (by with_reducible assumption) (by with_reducible assumption)) (by assumption) ?_)))
local macro_rules | `(tactic| walk_at "binaryOp Mult int int") => `(tactic| (k_here; (with_reducible refine' mul_pow ?k1 ?k2 ?_); (case k1 => first | with_reducible assumption | omega | decide); (case k2 => first | with_reducible assumption | omega | decide)))
local macro_rules | `(tactic| walk_at "compareOp Lt int int") => `(tactic| (k_here; first
  | (refine' lt_true (near1 ?k1 ?k2 ?k3 ?k4) ?_; (case k4 => assumption); (case k1 => with_reducible assumption); (case k2 => with_reducible assumption); (case k3 => with_reducible assumption))
  | (refine' lt_true (near2 ?k1 ?k2 ?k3 ?k4) ?_; (case k4 => assumption); (case k1 => with_reducible assumption); (case k2 => with_reducible assumption); (case k3 => with_reducible assumption))))
local macro_rules | `(tactic| walk_at "my own two") => `(tactic| fail "none")
theorem PySem.Challenge.cw_rg0174_01_holds : PySem.Challenge.rw_rg0174_01.Holds :=
  Mine.hd (by
  k_with_none
  k_with "state" => first | exact WInv.init _ _ | exact WInv.step (by assumption) (figs_figs 1 (by decide) (by with_reducible assumption) (by with_reducible assumption) (by with_reducible assumption) (by with_reducible assumption)) (by assumption)
  k_with "pyIter str" => k_state (fun pre whole unit => WInv (3 + xR) (figsOf 1 (1 + xD) (3 + xR)) pre whole unit) "whole" "unit"
  k_go0; (all_goals try k_fold); k_steps)

