import PyProof.Rows.All
import HandS.Words
import HandS.Defaults
import HandS.HeadEnd
import HandS.Head0
import HandS.Head1
import HandS.Head2
import HandS.HeadHook1
import HandS.HeadHook2
import HandS.EndTab
import KE.KNestM
import OpenK.KQuick
import PySem.Challenge.RW_etaparts_k78_whole_terms_found
import HandS.ForMost
import HandS.Conv
import HandS.Style
import HandS.TupAny
import HandS.Wide
import HandS.Deep
import HandS.IsInst
import HandS.SortInts
import HandS.Codes
import KE.SortData
import HandS.More
import KE.KTupSum
import HandS.Zip
import HandS.Small
import KE.GoesMore
import KE.GoesZip
import KE.KDictZip
import KE.GoesEnum
import HandS.SetFor
import HandS.Strs
import HandS.Lambda
import KE.SortKeyHeap

-- part Hd
set_option Elab.async false
set_option linter.all false
set_option maxRecDepth 100000
set_option maxHeartbeats 0
/-! Hd: the head's run, with facts. -/
namespace Q7
open PySem PySem.Spec PyProof.Rows L2
def top (i : Nat) : Stmt := PySem.Challenge.pw_etaparts_k78_whole_terms_found.main.body.getD i (.Pass ⟨0, 0, 0, 0⟩)
abbrev k_BOUND_OF_DIGITS : Int := 10000000000000000000000000000000000000000000000000000000000000000000000000000000000000000000000000000000000000000000000000000000000000000000000000000000000000000000000000000000000000000000000000000000000000000000000000000000000000000000000000000000000000000000000000000000000000000000000000000000000000000000000000000000000000000000000000000000000000000000000000000000000000000000000000000000000000000
abbrev k_MOST_CHOICES : Int := 200000
abbrev k_MOST_LEVEL_divisors : Int := 120
abbrev k_MOST_LEVEL_levels : Int := 120
abbrev k_MOST_PLACE : Int := 200
abbrev k_MOST_POWER : Int := 60
abbrev k_MOST_REACHED : Int := 3000
abbrev k_MOST_SIZE : Int := 24
abbrev k_MOST_STEPS : Int := 12
abbrev k_MOST_STEP_orbits : Int := 30
abbrev k_MOST_STEP_products : Int := 60
abbrev k_MOST_TERMS : Int := 6
abbrev k_ROUND : Int := 24
abbrev k_SHIFT_UNDER : Int := 24
abbrev k_WORD : Str := "product"


def mkD (x : Str) (i : Nat) : He.DefD := ⟨(x, none), x, x, defArgs (top i), defBody (top i), defScope (top i), [], []⟩
def lo0 : List Str := [Str.ofString "SeriesError", Str.ofString "StateError", Str.ofString "LimitError", Str.ofString "InvalidProduct", Str.ofString "InvalidLevel", Str.ofString "InvalidStep", Str.ofString "InvalidRest", Str.ofString "InvalidMany", Str.ofString "InvalidProducts", Str.ofString "NotFitting", Str.ofString "TooMany", Str.ofString "is_integer", Str.ofString "is_count", Str.ofString "is_between", Str.ofString "is_list", Str.ofString "want_at_most", Str.ofString "MOST_LEVEL_divisors", Str.ofString "greatest_common", Str.ofString "least_multiple", Str.ofString "divisors_in", Str.ofString "primes_in", Str.ofString "beside_count", Str.ofString "index_in", Str.ofString "want_level", Str.ofString "WORD", Str.ofString "MOST_STEPS", Str.ofString "MOST_STEP_products", Str.ofString "MOST_POWER", Str.ofString "is_power_pair", Str.ofString "is_product_value"]
def lo1 : List Str := [Str.ofString "want_product", Str.ofString "powers_of", Str.ofString "made_ratio", Str.ofString "difference_of", Str.ofString "product_of_two", Str.ofString "is_less_ratio", Str.ofString "is_whole_ratio", Str.ofString "square_free_in", Str.ofString "MOST_LEVEL_levels", Str.ofString "SHIFT_UNDER", Str.ofString "power_sum", Str.ofString "step_sum", Str.ofString "steps_divide", Str.ofString "shift_by", Str.ofString "MOST_SIZE", Str.ofString "MOST_CHOICES", Str.ofString "small_divisors", Str.ofString "rows_of_powers", Str.ofString "product_of_row", Str.ofString "want_choices", Str.ofString "want_size", Str.ofString "width_of", Str.ofString "ends_of", Str.ofString "MOST_STEP_orbits", Str.ofString "want_step", Str.ofString "want_section", Str.ofString "factor_of", Str.ofString "are_steps_within", Str.ofString "weighed_steps", Str.ofString "is_met_by"]
def lo2 : List Str := [Str.ofString "twos_and_odd", Str.ofString "is_even_right", Str.ofString "first_unserved", Str.ofString "rests_at", Str.ofString "common_steps", Str.ofString "low_of", Str.ofString "MOST_DIGITS", Str.ofString "BOUND_OF_DIGITS", Str.ofString "want_digits", Str.ofString "step_sums", Str.ofString "numbers_of", Str.ofString "MOST_TERMS", Str.ofString "MOST_PLACE", Str.ofString "MOST_REACHED", Str.ofString "ROUND", Str.ofString "rest_ratio", Str.ofString "place_of_term", Str.ofString "are_right", Str.ofString "quotient_powers", Str.ofString "is_beside", Str.ofString "serves_products", Str.ofString "least_level_for", Str.ofString "weighed_squares", Str.ofString "bound_by_products", Str.ofString "places_wanted", Str.ofString "left_row", Str.ofString "right_row", Str.ofString "first_parting", Str.ofString "want_reached", Str.ofString "want_level_for"]
def lo3 : List Str := [Str.ofString "coefficients_of", Str.ofString "found_of", Str.ofString "chosen_of", Str.ofString "found_terms", Str.ofString "candidates", Str.ofString "looked", Str.ofString "_law_pot", Str.ofString "_law_draw", Str.ofString "_law_pick", Str.ofString "_law_gcd", Str.ofString "_law_divisors", Str.ofString "_law_ratio", Str.ofString "_law_plus", Str.ofString "_law_is_less", Str.ofString "_law_index", Str.ofString "_law_ends", Str.ofString "_law_power_sum", Str.ofString "_law_step_sum", Str.ofString "_law_turned_sum", Str.ofString "_law_product", Str.ofString "_law_fits", Str.ofString "_law_kind", Str.ofString "_law_slope", Str.ofString "_law_row", Str.ofString "_law_x", Str.ofString "_law_place", Str.ofString "_law_serves", Str.ofString "_law_is_even_right", Str.ofString "_law_are_beside", Str.ofString "_law_serves_all"]
def lo4 : List Str := [Str.ofString "_law_least_level", Str.ofString "_law_low", Str.ofString "_law_bound", Str.ofString "_law_sides", Str.ofString "_law_made", Str.ofString "_law_both", Str.ofString "_law_small", Str.ofString "_law_told", Str.ofString "_law_read_off", Str.ofString "_law_due", Str.ofString "_law_choices", Str.ofString "_law_chosen", Str.ofString "_law_looked_right", Str.ofString "_law_right"]
def loose : List Str := lo0 ++ lo1 ++ lo2 ++ lo3 ++ lo4
def fn0 : List He.DefD := [mkD (Str.ofString "is_integer") 13, mkD (Str.ofString "is_count") 14, mkD (Str.ofString "is_between") 15, mkD (Str.ofString "is_list") 16, mkD (Str.ofString "want_at_most") 17, mkD (Str.ofString "greatest_common") 20, mkD (Str.ofString "least_multiple") 21, mkD (Str.ofString "divisors_in") 22, mkD (Str.ofString "primes_in") 23, mkD (Str.ofString "beside_count") 24, mkD (Str.ofString "index_in") 25, mkD (Str.ofString "want_level") 26, mkD (Str.ofString "is_power_pair") 32, mkD (Str.ofString "is_product_value") 33, mkD (Str.ofString "want_product") 34, mkD (Str.ofString "powers_of") 35, mkD (Str.ofString "made_ratio") 37, mkD (Str.ofString "difference_of") 38, mkD (Str.ofString "product_of_two") 39, mkD (Str.ofString "is_less_ratio") 40, mkD (Str.ofString "is_whole_ratio") 41, mkD (Str.ofString "square_free_in") 42, mkD (Str.ofString "power_sum") 46, mkD (Str.ofString "step_sum") 47, mkD (Str.ofString "steps_divide") 48, mkD (Str.ofString "shift_by") 49, mkD (Str.ofString "small_divisors") 53, mkD (Str.ofString "rows_of_powers") 54, mkD (Str.ofString "product_of_row") 55, mkD (Str.ofString "want_choices") 56]
def fn1 : List He.DefD := [mkD (Str.ofString "want_size") 57, mkD (Str.ofString "width_of") 59, mkD (Str.ofString "ends_of") 60, mkD (Str.ofString "want_step") 63, mkD (Str.ofString "want_section") 64, mkD (Str.ofString "factor_of") 66, mkD (Str.ofString "are_steps_within") 67, mkD (Str.ofString "weighed_steps") 68, mkD (Str.ofString "is_met_by") 69, mkD (Str.ofString "twos_and_odd") 70, mkD (Str.ofString "is_even_right") 71, mkD (Str.ofString "first_unserved") 72, mkD (Str.ofString "rests_at") 74, mkD (Str.ofString "common_steps") 75, mkD (Str.ofString "low_of") 76, mkD (Str.ofString "want_digits") 80, mkD (Str.ofString "step_sums") 81, mkD (Str.ofString "numbers_of") 82, mkD (Str.ofString "rest_ratio") 88, mkD (Str.ofString "place_of_term") 89, mkD (Str.ofString "are_right") 90, mkD (Str.ofString "quotient_powers") 91, mkD (Str.ofString "is_beside") 92, mkD (Str.ofString "serves_products") 93, mkD (Str.ofString "least_level_for") 94, mkD (Str.ofString "weighed_squares") 95, mkD (Str.ofString "bound_by_products") 96, mkD (Str.ofString "places_wanted") 97, mkD (Str.ofString "left_row") 98, mkD (Str.ofString "right_row") 99]
def fn2 : List He.DefD := [mkD (Str.ofString "first_parting") 100, mkD (Str.ofString "want_reached") 101, mkD (Str.ofString "want_level_for") 102, mkD (Str.ofString "coefficients_of") 104, mkD (Str.ofString "found_of") 105, mkD (Str.ofString "chosen_of") 106, mkD (Str.ofString "found_terms") 107, mkD (Str.ofString "candidates") 108, mkD (Str.ofString "looked") 109, mkD (Str.ofString "_law_pot") 111, mkD (Str.ofString "_law_draw") 112, mkD (Str.ofString "_law_pick") 113, mkD (Str.ofString "_law_gcd") 114, mkD (Str.ofString "_law_divisors") 115, mkD (Str.ofString "_law_ratio") 116, mkD (Str.ofString "_law_plus") 117, mkD (Str.ofString "_law_is_less") 118, mkD (Str.ofString "_law_index") 119, mkD (Str.ofString "_law_ends") 120, mkD (Str.ofString "_law_power_sum") 121, mkD (Str.ofString "_law_step_sum") 122, mkD (Str.ofString "_law_turned_sum") 123, mkD (Str.ofString "_law_product") 124, mkD (Str.ofString "_law_fits") 125, mkD (Str.ofString "_law_kind") 126, mkD (Str.ofString "_law_slope") 127, mkD (Str.ofString "_law_row") 128, mkD (Str.ofString "_law_x") 129, mkD (Str.ofString "_law_place") 130, mkD (Str.ofString "_law_serves") 131]
def fn3 : List He.DefD := [mkD (Str.ofString "_law_is_even_right") 132, mkD (Str.ofString "_law_are_beside") 133, mkD (Str.ofString "_law_serves_all") 134, mkD (Str.ofString "_law_least_level") 135, mkD (Str.ofString "_law_low") 136, mkD (Str.ofString "_law_bound") 137, mkD (Str.ofString "_law_sides") 138, mkD (Str.ofString "_law_made") 139, mkD (Str.ofString "_law_both") 140, mkD (Str.ofString "_law_small") 141, mkD (Str.ofString "_law_told") 142, mkD (Str.ofString "_law_read_off") 143, mkD (Str.ofString "_law_due") 144, mkD (Str.ofString "_law_choices") 145, mkD (Str.ofString "_law_chosen") 146, mkD (Str.ofString "_law_looked_right") 147, mkD (Str.ofString "_law_right") 148, mkD (Str.ofString "law") 149]
def fnL : List He.DefD := fn0 ++ fn1 ++ fn2 ++ fn3
def fa0 : List He.Fa := [.free "abs", .free "all", .free "any", .free "bool", .free "dict", .free "divmod", .free "enumerate", .free "int", .free "isinstance", .free "len", .free "list", .free "max", .free "min", .free "range", .free "repr", .free "set", .free "sorted", .free "str", .free "sum", .free "tuple", .free "zip", .int "BOUND_OF_DIGITS" k_BOUND_OF_DIGITS, .int "MOST_CHOICES" k_MOST_CHOICES, .int "MOST_LEVEL_divisors" k_MOST_LEVEL_divisors, .int "MOST_LEVEL_levels" k_MOST_LEVEL_levels, .int "MOST_PLACE" k_MOST_PLACE, .int "MOST_POWER" k_MOST_POWER, .int "MOST_REACHED" k_MOST_REACHED, .int "MOST_SIZE" k_MOST_SIZE, .int "MOST_STEPS" k_MOST_STEPS]
def fa1 : List He.Fa := [.int "MOST_STEP_orbits" k_MOST_STEP_orbits, .int "MOST_STEP_products" k_MOST_STEP_products, .int "MOST_TERMS" k_MOST_TERMS, .int "ROUND" k_ROUND, .int "SHIFT_UNDER" k_SHIFT_UNDER, .str "WORD" k_WORD]
def faL : List He.Fa := fa0 ++ fa1
def emptyB : Option Obj → Bool
  | some ⟨.none, none, .fields us, sl⟩ => us.toList.isEmpty && sl.toList.isEmpty
  | _ => false
theorem emptyB_ok {o : Option Obj} (h : emptyB o = true) : o = some { cls := .none, data := .fields #[] } := by
  unfold emptyB at h
  split at h
  · rename_i us sl
    obtain ⟨h1, h2⟩ := Bool.and_eq_true_iff.mp h
    have e1 : us = #[] := Array.toList_eq_nil_iff.mp (List.isEmpty_iff.mp h1)
    have e2 : sl = #[] := Array.toList_eq_nil_iff.mp (List.isEmpty_iff.mp h2)
    rw [e1, e2]
  · cases h
/-- no function stands at 0 -/
def nofn0 (K : PySem.W.Frag) : Bool := match K.lookup 0 with
  | some ⟨_, _, .func _, _⟩ => false
  | _ => true
def tabB (g : Addr → Option Obj) (K : PySem.W.Frag) : Bool := nofn0 K && match PySem.W.tabIn K "_law_chosen" with
  | some (c, P) => (K.lookup P).isNone && (PySem.W.codeHdIn K c P && emptyB (g P))
  | none => false
theorem tabB_ok {h : Heap} {K : PySem.W.Frag} (X : K.In h) (e : tabB h.get? K = true) : nofn0 K = true ∧ ∃ c P, PySem.W.tabIn K "_law_chosen" = some (c, P) ∧ K.lookup P = none ∧ PySem.W.CodeHd h c P ∧ h.get? P = some { cls := .none, data := .fields #[] } := by
  obtain ⟨z, e⟩ := Bool.and_eq_true_iff.mp e
  split at e
  · rename_i c P q
    obtain ⟨h1, h2⟩ := Bool.and_eq_true_iff.mp e
    obtain ⟨h2, h3⟩ := Bool.and_eq_true_iff.mp h2
    exact ⟨z, c, P, q, Option.isNone_iff_eq_none.mp h1, PySem.W.codeHd_of_K X h2, emptyB_ok h3⟩
  · cases e
def refsG (o : Obj) : List Addr := match o.data with
  | .dict es _ => es.toList.flatMap fun e => He.refV e.val
  | _ => []
def codeG (g : Addr → Option Obj) (a : Addr) : List Addr := match g a with
  | some ⟨_, _, .func fd, _⟩ => a :: He.refV fd.code
  | _ => []
/-- the module's names, its functions, their code objects -/
def asQ (g : Addr → Option Obj) : List Addr := mainGlobals :: (match g mainGlobals with
  | some o => (refsG o).flatMap (codeG g)
  | none => [])
def obsK (g : Addr → Option Obj) (K : PySem.W.Frag) : He.AlD × Bool := (He.obsD faL fnL K, tabB g K)
def obsX (g : Addr → Option Obj) : He.AlD × Bool := obsK g (He.frG g (asQ g))
/-- what the law leans on -/
def SaysT (h : Heap) : Prop := ∃ (K : PySem.W.Frag) (c P : Addr), K.In h ∧ He.SaysD faL fnL K ∧ nofn0 K = true ∧ PySem.W.tabIn K "_law_chosen" = some (c, P) ∧ K.lookup P = none ∧ PySem.W.CodeHd h c P ∧ h.get? P = some { cls := .none, data := .fields #[] }
def hookT : PySem.W.Hook where
  α := He.AlD × Bool
  obs := fun s => obsX s.heap.get?
  val := fun _ => (He.valD fnL, true)
  says := fun _ h => SaysT h
  of := fun w s e => by
    have e1 : He.obsD faL fnL (He.frG s.heap.get? (asQ s.heap.get?)) = He.valD fnL := congrArg Prod.fst e
    have e2 : tabB s.heap.get? (He.frG s.heap.get? (asQ s.heap.get?)) = true := congrArg Prod.snd e
    obtain ⟨z, c, P, k1, k2, k3, k4⟩ := tabB_ok He.frG_in e2
    exact ⟨_, c, P, He.frG_in, e1, z, k1, k2, k3, k4⟩
  keeps := fun _ h h' ⟨K, c, P, k0, k1, z, k2, k3, k4, k5⟩ k => ⟨K, c, P, PySem.W.Frag.In.keeps k0 k, k1, z, k2, k3, k4.keeps k, k _ _ k5⟩
abbrev RWx : PySem.W.OpenRow := PySem.W.OpenLaw.row PySem.Challenge.rw_etaparts_k78_whole_terms_found
def obT (s : PySem.W.SharedT) : He.AlD × Bool := obsX (HandSHeadRun.getT s)
theorem obT_eq (s : PySem.W.SharedT) : obT s = hookT.obs s.abs := by
  have e : HandSHeadRun.getT s = s.abs.heap.get? := funext (HandSHeadRun.getT_eq s)
  show obsX (HandSHeadRun.getT s) = obsX s.abs.heap.get?
  rw [e]
noncomputable abbrev endT (w : World) (os : OsState) : Option PySem.W.SharedT := HandSHeadRun.endF (HandSHeadRun.stepQ (HandSHeadRun.denQ HandSHeadRun.tabQ) RWx.prog w) 20000 RWx.prog w os
theorem run_looks (w : World) (os : OsState) : (endT w os).map (fun s => (HandSHeadRun.looksF RWx.prog (PySem.W.boot_heap w.params) s.abs, HandSHeadRun.seenQ (PySem.W.view RWx.prog [149]) loose (importedModules RWx.prog.main.body) (fun s => PySem.W.xlAt (PySem.W.view RWx.prog [149]) [] s && PySem.W.recOk RWx.toRowW.records s) s.abs)) = some (true, PySem.W.openGood (PySem.W.view RWx.prog [149]) loose) := by kernel_rfl
theorem run_facts (w : World) (os : OsState) : (endT w os).map obT = some (hookT.val w) := by kernel_rfl
theorem map_two {α β γ δ : Type} {x : Option α} {f : α → β × γ} {g : α → δ} {b : β} {c : γ} {d : δ} (h1 : x.map f = some (b, c)) (h2 : x.map g = some d) : x.map (fun s => ((f s).1, (f s).2, g s)) = some (b, c, d) := by
  cases x with
  | none => cases h1
  | some s =>
    have e1 : f s = (b, c) := Option.some.inj h1
    have e2 : g s = d := Option.some.inj h2
    show some ((f s).1, (f s).2, g s) = _
    rw [e1, e2]
theorem run_top (w : World) : HandSHeadRun.RunEq RWx (PySem.W.view RWx.prog [149]) hookT obT 20000 loose w := fun os => map_two (run_looks w os) (run_facts w os)
theorem tab_code {K : PySem.W.Frag} {x : Str} {f c P : Addr} {oc : Value} {od : Option Addr} {fd : FuncData} {osl : Array (Option Value)} (hn : PySem.W.nsIn K mainGlobals x = some (some (.ref f))) (lk : K.lookup f = some ⟨oc, od, .func fd, osl⟩) (h : PySem.W.tabIn K x = some (c, P)) : fd.code = .ref c := by
  unfold PySem.W.tabIn at h
  rw [hn] at h
  dsimp only at h
  rw [lk] at h
  dsimp only at h
  split at h
  · rename_i c2 hc
    split at h
    · split at h
      · cases h
        exact hc
      · cases h
    · cases h
  · cases h
end Q7

-- part Qa
set_option Elab.async false
set_option linter.all false
set_option maxRecDepth 100000
/-! Qa: data that values stand for; states; the readings of pure code. -/
namespace Q7
open PySem PySem.Spec PyProof.Rows L2

/-! ### what a value stands for -/
mutual
def Rp (K : PySem.W.Frag) (H : Hp) : PyData → V → Prop
  | .none, v => v = .non
  | .bool b, v => v = .bl b
  | .int i, v => v = .int i
  | .str x, v => v = .str x
  | .list ds, v => ∃ a xs, v = .ref a ∧ SqL K H a xs ∧ RpA K H ds xs
  | .tuple ds, v => ∃ a xs, v = .ref a ∧ SqT K H a xs ∧ RpA K H ds xs
  | .dict es, v => ∃ a kvs, v = .ref a ∧ H a = some (.dK kvs) ∧ RpK K H es kvs
def RpA (K : PySem.W.Frag) (H : Hp) : List PyData → List V → Prop
  | [], xs => xs = []
  | d :: ds, xs => ∃ x ys, xs = x :: ys ∧ Rp K H d x ∧ RpA K H ds ys
def RpK (K : PySem.W.Frag) (H : Hp) : List (PyData × PyData) → List (Key × V) → Prop
  | [], kvs => kvs = []
  | (k, d) :: es, kvs => ∃ i x r, k = .int i ∧ kvs = (Sum.inl i, x) :: r ∧ Rp K H d x ∧ RpK K H es r
end

/-- what is to be read there is to be read here -/
def Sub (H H' : Hp) : Prop := ∀ a u, Rd H a u → Rd H' a u
section
variable {K : PySem.W.Frag} {H H' H2 : Hp}
theorem Sub.refl : Sub H H := fun _ _ h => h
theorem Sub.trans (h : Sub H H') (h2 : Sub H' H2) : Sub H H2 := fun a u r => h2 a u (h a u r)
theorem Sub.of (h : Same H H') : Sub H H' := fun a u r => r.elim (fun e => .inl (h a u e)) fun ⟨o, e⟩ => .inr ⟨o, h a _ e⟩
theorem Sub.lst (s : Sub H H') {a : Addr} {xs : List V} (h : SqL K H a xs) : SqL K H' a xs := h.elim (fun r => .inl (s a _ r)) .inr
theorem Sub.tup (s : Sub H H') {a : Addr} {xs : List V} (h : SqT K H a xs) : SqT K H' a xs := h.elim (fun r => .inl (s a _ r)) .inr
mutual
theorem Rp.mono (s : Same H H') : ∀ (d : PyData) (v : V), Rp K H d v → Rp K H' d v
  | .none, _, h => h
  | .bool _, _, h => h
  | .int _, _, h => h
  | .str _, _, h => h
  | .list ds, _, ⟨a, xs, e, h, r⟩ => ⟨a, xs, e, Sub.lst (.of s) h, RpA.mono s ds xs r⟩
  | .tuple ds, _, ⟨a, xs, e, h, r⟩ => ⟨a, xs, e, Sub.tup (.of s) h, RpA.mono s ds xs r⟩
  | .dict es, _, ⟨a, kvs, e, h, r⟩ => ⟨a, kvs, e, s a _ h, RpK.mono s es kvs r⟩
theorem RpA.mono (s : Same H H') : ∀ (ds : List PyData) (xs : List V), RpA K H ds xs → RpA K H' ds xs
  | [], _, h => h
  | d :: ds, _, ⟨x, ys, e, h, r⟩ => ⟨x, ys, e, Rp.mono s d x h, RpA.mono s ds ys r⟩
theorem RpK.mono (s : Same H H') : ∀ (es : List (PyData × PyData)) (kvs : List (Key × V)), RpK K H es kvs → RpK K H' es kvs
  | [], _, h => h
  | (k, d) :: es, _, ⟨i, x, r, e1, e2, h, q⟩ => ⟨i, x, r, e1, e2, Rp.mono s d x h, RpK.mono s es r q⟩
end
theorem RpA.length : ∀ {ds : List PyData} {xs : List V}, RpA K H ds xs → xs.length = ds.length
  | [], _, h => by rw [show _ = ([] : List V) from h]; rfl
  | _ :: _, _, ⟨_, _, e, _, r⟩ => by rw [e, List.length_cons, List.length_cons, r.length]
theorem RpA.get : ∀ {ds : List PyData} {xs : List V} {j : Nat} {d : PyData}, RpA K H ds xs → ds[j]? = some d → ∃ x, xs[j]? = some x ∧ Rp K H d x
  | [], _, _, _, _, e => by simp at e
  | d0 :: ds, _, 0, d, ⟨x, ys, e, h, r⟩, g => by
    have z : d0 = d := Option.some.inj g
    subst z
    exact ⟨x, by rw [e]; rfl, h⟩
  | _ :: ds, _, j + 1, d, ⟨x, ys, e, h, r⟩, g => by
    obtain ⟨y, e1, e2⟩ := r.get (j := j) (d := d) g
    exact ⟨y, by rw [e]; exact e1, e2⟩
theorem RpA.append : ∀ {ds es : List PyData} {xs ys : List V}, RpA K H ds xs → RpA K H es ys → RpA K H (ds ++ es) (xs ++ ys)
  | [], _, _, _, h, r => by
    rw [show _ = ([] : List V) from h]
    exact r
  | _ :: _, _, _, _, ⟨x, zs, e, h, r⟩, q => ⟨x, zs ++ _, by rw [e]; rfl, h, r.append q⟩
theorem RpA.one {d : PyData} {x : V} (h : Rp K H d x) : RpA K H [d] [x] := ⟨x, [], rfl, h, rfl⟩
theorem RpA.nil : RpA K H [] [] := rfl
theorem RpA.cons {d : PyData} {ds : List PyData} {x : V} {xs : List V} (h : Rp K H d x) (r : RpA K H ds xs) : RpA K H (d :: ds) (x :: xs) := ⟨x, xs, rfl, h, r⟩
theorem RpA.set : ∀ {ds : List PyData} {xs : List V} (j : Nat) {d : PyData} {x : V}, RpA K H ds xs → Rp K H d x → RpA K H (ds.set j d) (xs.set j x)
  | [], _, j, _, _, h, _ => by
    rw [show _ = ([] : List V) from h]
    exact rfl
  | _ :: _, _, 0, _, _, ⟨_, ys, e, _, r⟩, q => ⟨_, ys, by rw [e]; rfl, q, r⟩
  | _ :: _, _, j + 1, _, _, ⟨x0, ys, e, h, r⟩, q => ⟨x0, ys.set j _, by rw [e]; rfl, h, r.set j q⟩
theorem RpA.take : ∀ {ds : List PyData} {xs : List V} (n : Nat), RpA K H ds xs → RpA K H (ds.take n) (xs.take n)
  | _, _, 0, _ => rfl
  | [], _, n + 1, h => by
    rw [show _ = ([] : List V) from h]
    exact rfl
  | _ :: _, _, n + 1, ⟨x0, ys, e, h, r⟩ => ⟨x0, ys.take n, by rw [e]; rfl, h, r.take n⟩
theorem RpA.drop : ∀ {ds : List PyData} {xs : List V} (n : Nat), RpA K H ds xs → RpA K H (ds.drop n) (xs.drop n)
  | _, _, 0, h => h
  | [], _, n + 1, h => by
    rw [show _ = ([] : List V) from h]
    exact rfl
  | _ :: _, _, n + 1, ⟨x0, ys, e, h, r⟩ => by
    rw [e]
    exact r.drop n
theorem RpA.reverse : ∀ {ds : List PyData} {xs : List V}, RpA K H ds xs → RpA K H ds.reverse xs.reverse
  | [], _, h => by
    rw [show _ = ([] : List V) from h]
    exact rfl
  | _ :: _, _, ⟨x0, ys, e, h, r⟩ => by
    rw [e, List.reverse_cons, List.reverse_cons]
    exact r.reverse.append (.one h)
theorem RpA.ints : ∀ {ns : List Int} {xs : List V}, RpA K H (ns.map PyData.int) xs → xs = ns.map V.int
  | [], _, h => h
  | n :: ns, _, ⟨x0, ys, e, h, r⟩ => by
    rw [e, show x0 = V.int n from h, RpA.ints r]
    rfl
theorem RpA.of_ints : ∀ ns : List Int, RpA K H (ns.map PyData.int) (ns.map V.int)
  | [] => rfl
  | _ :: ns => ⟨_, _, rfl, rfl, RpA.of_ints ns⟩
theorem RpA.bools : ∀ {bs : List Bool} {xs : List V}, RpA K H (bs.map PyData.bool) xs → xs = bs.map V.bl
  | [], _, h => h
  | n :: ns, _, ⟨x0, ys, e, h, r⟩ => by
    rw [e, show x0 = V.bl n from h, RpA.bools r]
    rfl
theorem RpA.rep (d : PyData) (x : V) (h : Rp K H d x) : ∀ n : Nat, RpA K H (List.replicate n d) (List.replicate n x)
  | 0 => rfl
  | n + 1 => ⟨_, _, rfl, h, RpA.rep d x h n⟩
theorem RpK.length : ∀ {es : List (PyData × PyData)} {kvs : List (Key × V)}, RpK K H es kvs → kvs.length = es.length
  | [], _, h => by rw [show _ = ([] : List (Key × V)) from h]; rfl
  | _ :: _, _, ⟨_, _, _, _, e, _, r⟩ => by rw [e, List.length_cons, List.length_cons, r.length]
end

/-! ### states: what each name holds -/
/-- un: nothing is told; raw: the value itself; fr: data that stand still; ow: a list or dict that this code alone holds -/
inductive Cell where
  | un | raw (v : V) | fr (d : PyData) | ow (d : PyData)
abbrev Nv := List Cell
/-- p holds an object of its own, its items stand still -/
def OwR (K : PySem.W.Frag) (Hf H : Hp) (p : Addr) : PyData → Prop
  | .list ds => ∃ xs, H p = some (.lst xs) ∧ RpA K Hf ds xs
  | .dict es => ∃ kvs, H p = some (.dK kvs) ∧ RpK K Hf es kvs
  | _ => False
def CellOk (K : PySem.W.Frag) (B Hf H : Hp) : Cell → Option (Option V) → Prop
  | .un, _ => True
  | .raw v, o => o = some (some v)
  | .fr d, o => ∃ v, o = some (some v) ∧ Rp K Hf d v
  | .ow d, o => ∃ p, o = some (some (.ref p)) ∧ B p = none ∧ Hf p = none ∧ OwR K Hf H p d
/-- B: what is to stay as it is; Hf: what stands still from now on -/
structure StOk (K : PySem.W.Frag) (B Hf : Hp) (env : Nv) (σ : L2.St) (H : Hp) : Prop where
  sub : Sub Hf H
  base : Same B H
  len : env.length = σ.length
  cell : ∀ (i : Nat) (c : Cell), env[i]? = some c → CellOk K B Hf H c σ[i]?
  apart : ∀ (i j : Nat) (p : Addr) (d d' : PyData), i ≠ j → env[i]? = some (.ow d) → env[j]? = some (.ow d') → σ[i]? = some (some (.ref p)) → σ[j]? = some (some (.ref p)) → False
/-- more stands still: new objects alone -/
structure Grow (Hf Hf' H : Hp) : Prop where
  same : Same Hf Hf'
  new : ∀ a, Hf a = none → H a ≠ none → Hf' a = none
section
variable {K : PySem.W.Frag} {B Hf Hf' Hf2 H H' H2 : Hp} {env : Nv} {σ : L2.St} {p : Addr} {d : PyData} {o : HO}
theorem Grow.refl : Grow Hf Hf H := ⟨fun _ _ h => h, fun _ h _ => h⟩
theorem same_ne {a : Addr} (s : Same H H') (h : H a ≠ none) : H' a ≠ none := fun e => h (s.free e)
theorem Grow.trans (g : Grow Hf Hf' H) (s : Same H H') (g2 : Grow Hf' Hf2 H') : Grow Hf Hf2 H := ⟨g.same.trans g2.same, fun a h n => g2.new a (g.new a h n) (same_ne s n)⟩
theorem OwR.there (h : OwR K Hf H p d) : H p ≠ none := fun e => by
  cases d with
  | list ds => obtain ⟨_, z, _⟩ := h; rw [e] at z; cases z
  | dict es => obtain ⟨_, z, _⟩ := h; rw [e] at z; cases z
  | none => exact h
  | bool _ => exact h
  | int _ => exact h
  | str _ => exact h
  | tuple _ => exact h
theorem OwR.mono (h : OwR K Hf H p d) (s : Same Hf Hf') (e : H' p = H p) : OwR K Hf' H' p d := by
  cases d with
  | list ds => obtain ⟨xs, z, r⟩ := h; exact ⟨xs, e.trans z, RpA.mono s _ _ r⟩
  | dict es => obtain ⟨xs, z, r⟩ := h; exact ⟨xs, e.trans z, RpK.mono s _ _ r⟩
  | none => exact h
  | bool _ => exact h
  | int _ => exact h
  | str _ => exact h
  | tuple _ => exact h
/-- frozen as it stands -/
theorem OwR.rp (h : OwR K Hf H p d) (s : Same Hf Hf') (e : Hf' p = H p) : Rp K Hf' d (.ref p) := by
  cases d with
  | list ds => obtain ⟨xs, z, r⟩ := h; exact ⟨p, xs, rfl, .inl (.inl (e.trans z)), RpA.mono s _ _ r⟩
  | dict es => obtain ⟨xs, z, r⟩ := h; exact ⟨p, xs, rfl, e.trans z, RpK.mono s _ _ r⟩
  | none => exact h.elim
  | bool _ => exact h.elim
  | int _ => exact h.elim
  | str _ => exact h.elim
  | tuple _ => exact h.elim
theorem same_of_owr (s : Same H H') (h : OwR K Hf H p d) : H' p = H p := by
  cases e : H p with
  | none => exact (h.there e).elim
  | some o => exact s p o e
theorem free_of_sub (s : Sub Hf H) (h : H p = none) : Hf p = none := by
  cases e : Hf p with
  | none => rfl
  | some o =>
    rcases s p o (.inl e) with z | ⟨_, z⟩
    · rw [h] at z; cases z
    · rw [h] at z; cases z
theorem StOk.hfree (S : StOk K B Hf env σ H) (h : H p = none) : Hf p = none := free_of_sub S.sub h
theorem StOk.bfree (S : StOk K B Hf env σ H) (h : H p = none) : B p = none := S.base.free h
/-- the heap has grown -/
theorem StOk.grow (S : StOk K B Hf env σ H) (sub : Sub Hf' H') (s : Same H H') (g : Grow Hf Hf' H) : StOk K B Hf' env σ H' := by
  refine ⟨sub, S.base.trans s, S.len, fun i c e => ?_, S.apart⟩
  have h := S.cell i c e
  cases c with
  | un => trivial
  | raw v => exact h
  | fr d =>
    obtain ⟨v, e1, r⟩ := h
    exact ⟨v, e1, Rp.mono (g.same) _ _ r⟩
  | ow d =>
    obtain ⟨q, e1, b, f, r⟩ := h
    exact ⟨q, e1, b, g.new q f r.there, r.mono (g.same) (same_of_owr s r)⟩
theorem same_new (h : H p = none) : Same H (upd H p o) := fun b x e => by
  rw [upd_ne (ne_of_none e h)]
  exact e
theorem sub_upd2 (s : Sub Hf H) : Sub (upd Hf p o) (upd H p o) := fun a u r => by
  by_cases e : a = p
  · subst e
    rcases r with r | ⟨q, r⟩
    · rw [upd_same] at r; exact .inl (by rw [upd_same]; exact r)
    · rw [upd_same] at r; exact .inr ⟨q, by rw [upd_same]; exact r⟩
  · rcases r with r | ⟨q, r⟩
    · rw [upd_ne e] at r
      rcases s a u (.inl r) with z | ⟨q, z⟩
      · exact .inl (by rw [upd_ne e]; exact z)
      · exact .inr ⟨q, by rw [upd_ne e]; exact z⟩
    · rw [upd_ne e] at r
      rcases s a u (.inr ⟨q, r⟩) with z | ⟨q, z⟩
      · exact .inl (by rw [upd_ne e]; exact z)
      · exact .inr ⟨q, by rw [upd_ne e]; exact z⟩
theorem sub_updR (s : Sub Hf H) (h : Hf p = none) : Sub Hf (upd H p o) := fun a u r => by
  have e : a ≠ p := by
    rcases r with r | ⟨q, r⟩
    · exact ne_of_none r h
    · exact ne_of_none r h
  rcases s a u r with z | ⟨q, z⟩
  · exact .inl (by rw [upd_ne e]; exact z)
  · exact .inr ⟨q, by rw [upd_ne e]; exact z⟩
/-- a new object, not frozen -/
theorem StOk.new (S : StOk K B Hf env σ H) (h : H p = none) : StOk K B Hf env σ (upd H p o) := S.grow (sub_updR S.sub (S.hfree h)) (same_new h) .refl
theorem grow_new (h : H p = none) (s : Sub Hf H) : Grow Hf (upd Hf p o) H := ⟨same_new (free_of_sub s h), fun a f n => by
  have e : a ≠ p := fun e => n (e ▸ h)
  rw [upd_ne e]
  exact f⟩
/-- a new object, frozen at once -/
theorem StOk.newF (S : StOk K B Hf env σ H) (h : H p = none) : StOk K B (upd Hf p o) env σ (upd H p o) := S.grow (sub_upd2 S.sub) (same_new h) (grow_new h S.sub)
end

/-! ### the readings of expressions -/
/-- a mode: ahead (H), frozen behind (Hf'), behind (H') -/
abbrev Md := Hp → Hp → Hp → PyData → V → Prop
/-- frozen data -/
def RF (K : PySem.W.Frag) : Md := fun _ Hf' _ d v => Rp K Hf' d v
/-- a new object, held by nobody else -/
def RO (K : PySem.W.Frag) : Md := fun H Hf' H' d v => ∃ p, v = .ref p ∧ H p = none ∧ Hf' p = none ∧ OwR K Hf' H' p d
/-- an object of its own, a name's or new -/
def RW (K : PySem.W.Frag) : Md := fun _ Hf' H' d v => ∃ p, v = .ref p ∧ Hf' p = none ∧ OwR K Hf' H' p d
/-- any of these: to be looked at -/
def RQ (K : PySem.W.Frag) : Md := fun _ Hf' H' d v => Rp K Hf' d v ∨ ∃ p, v = .ref p ∧ Hf' p = none ∧ OwR K Hf' H' p d
def tX (K : PySem.W.Frag) (R : Md) (f : Nv → Option PyData) : TE := fun σ H Q => ∃ B Hf env d, StOk K B Hf env σ H ∧ f env = some d ∧
  ∀ v Hf' H', StOk K B Hf' env σ H' → Same H H' → Grow Hf Hf' H → R H Hf' H' d v → Q v H'
abbrev PF (X : Cx) (e : Expr) (f : Nv → Option PyData) : Prop := PE X e (tX X.K (RF X.K) f)
abbrev PO' (X : Cx) (e : Expr) (f : Nv → Option PyData) : Prop := PE X e (tX X.K (RO X.K) f)
abbrev PW' (X : Cx) (e : Expr) (f : Nv → Option PyData) : Prop := PE X e (tX X.K (RW X.K) f)
abbrev PQ (X : Cx) (e : Expr) (f : Nv → Option PyData) : Prop := PE X e (tX X.K (RQ X.K) f)
/-- another reading -/
theorem pe_imp {X : Cx} {e : Expr} {t t' : TE} (h : PE X e t) (k : ∀ σ H Q, t' σ H Q → t σ H Q) : PE X e t' := ⟨fun pins s σ H Q I q => h.run pins s σ H Q I (k σ H Q q)⟩
section
variable {X : Cx} {e : Expr} {f : Nv → Option PyData}
theorem qF (h : PF X e f) : PQ X e f := pe_imp h fun σ H Q ⟨B, Hf, env, d, S, z, k⟩ => ⟨B, Hf, env, d, S, z, fun v Hf' H' S' s g r => k v Hf' H' S' s g (.inl r)⟩
theorem qW (h : PW' X e f) : PQ X e f := pe_imp h fun σ H Q ⟨B, Hf, env, d, S, z, k⟩ => ⟨B, Hf, env, d, S, z, fun v Hf' H' S' s g ⟨p, e1, e2, r⟩ => k v Hf' H' S' s g (.inr ⟨p, e1, e2, r⟩)⟩
theorem wO (h : PO' X e f) : PW' X e f := pe_imp h fun σ H Q ⟨B, Hf, env, d, S, z, k⟩ => ⟨B, Hf, env, d, S, z, fun v Hf' H' S' s g ⟨p, e1, _, e2, r⟩ => k v Hf' H' S' s g ⟨p, e1, e2, r⟩⟩
theorem qO (h : PO' X e f) : PQ X e f := qW (wO h)
/-- a new object is frozen -/
theorem fO (h : PO' X e f) : PF X e f := pe_imp h fun σ H Q ⟨B, Hf, env, d, S, z, k⟩ => ⟨B, Hf, env, d, S, z, fun v Hf' H' S' s g ⟨p, e1, hp, fp, r⟩ => by
  subst e1
  obtain ⟨o, eo⟩ : ∃ o, H' p = some o := by
    cases q : H' p with
    | none => exact (r.there q).elim
    | some o => exact ⟨o, rfl⟩
  have sb : Same Hf' (upd Hf' p o) := same_new fp
  refine k (.ref p) (upd Hf' p o) H' ⟨fun a u q => ?_, S'.base, S'.len, fun i c ec => ?_, S'.apart⟩ s ⟨g.same.trans (same_new fp), fun a f n => ?_⟩ (r.rp sb (by rw [upd_same, eo]))
  · by_cases ea : a = p
    · subst ea
      rcases q with q | ⟨w, q⟩
      · rw [upd_same] at q; exact .inl (eo.trans q)
      · rw [upd_same] at q; exact .inr ⟨w, eo.trans q⟩
    · rcases q with q | ⟨w, q⟩
      · rw [upd_ne ea] at q; exact S'.sub a u (.inl q)
      · rw [upd_ne ea] at q; exact S'.sub a u (.inr ⟨w, q⟩)
  · have hc := S'.cell i c ec
    have h0 := S.cell i c ec
    cases c with
    | un => trivial
    | raw v => exact hc
    | fr d =>
      obtain ⟨v, e1, r⟩ := hc
      exact ⟨v, e1, Rp.mono sb _ _ r⟩
    | ow d =>
      obtain ⟨q, e1, b, f, r⟩ := hc
      obtain ⟨q0, e0, _, _, r0⟩ := h0
      have eq : q0 = q := V.ref.inj (Option.some.inj (Option.some.inj (e0.symm.trans e1)))
      subst eq
      have ne : q0 ≠ p := fun z => r0.there (z ▸ hp)
      exact ⟨q0, e1, b, by rw [upd_ne ne]; exact f, r.mono sb rfl⟩
  · have ne : a ≠ p := fun z => n (z ▸ hp)
    rw [upd_ne ne]
    exact g.new a f n⟩
end
end Q7

-- part Qb
set_option Elab.async false
set_option linter.all false
set_option maxRecDepth 100000
/-! Qb: the rules of pure expressions. -/
namespace Q7
open PySem PySem.Spec PyProof.Rows L2

/-- every need of the pure reading f is a need of t -/
def Le (K : PySem.W.Frag) (R : Md) (f : Nv → Option PyData) (t : TE) : Prop := ∀ σ H Q, tX K R f σ H Q → t σ H Q
theorem Le.pe {X : Cx} {e : Expr} {R : Md} {f : Nv → Option PyData} {t : TE} (l : Le X.K R f t) (h : PE X e t) : PE X e (tX X.K R f) := pe_imp h l

/-- a mode that lasts -/
structure Fw (R : Md) : Prop where
  to : ∀ {H0 H0' Hf Hf' H H' : Hp} {d : PyData} {v : V}, Same H H' → Grow Hf Hf' H → R H0 Hf H d v → R H0' Hf' H' d v
/-- a mode that may be asked of an earlier heap -/
structure Bk (R : Md) : Prop where
  to : ∀ {H0 H Hf' H' : Hp} {d : PyData} {v : V}, Same H0 H → R H Hf' H' d v → R H0 Hf' H' d v
section
variable {K : PySem.W.Frag}
theorem fwF : Fw (RF K) := ⟨fun _ g h => Rp.mono (g.same) _ _ h⟩
theorem fwW : Fw (RW K) := ⟨fun s g ⟨p, e, f, r⟩ => ⟨p, e, g.new p f r.there, r.mono (g.same) (same_of_owr s r)⟩⟩
theorem fwQ : Fw (RQ K) := ⟨fun s g h => h.elim (fun h => .inl (Rp.mono (g.same) _ _ h)) fun ⟨p, e, f, r⟩ => .inr ⟨p, e, g.new p f r.there, r.mono (g.same) (same_of_owr s r)⟩⟩
theorem bkF : Bk (RF K) := ⟨fun _ h => h⟩
theorem bkO : Bk (RO K) := ⟨fun s ⟨p, e, h, r⟩ => ⟨p, e, s.free h, r⟩⟩
end

/-! ### composition -/
def u1 (f : Nv → Option PyData) (g : PyData → Option PyData) : Nv → Option PyData := fun env => (f env).bind g
def b2 (f1 f2 : Nv → Option PyData) (g : PyData → PyData → Option PyData) : Nv → Option PyData := fun env => (f1 env).bind fun a => (f2 env).bind fun b => g a b
def b3 (f1 f2 f3 : Nv → Option PyData) (g : PyData → PyData → PyData → Option PyData) : Nv → Option PyData := fun env => (f1 env).bind fun a => (f2 env).bind fun b => (f3 env).bind fun c => g a b c
/-- what is to be shown of an operation: from the state (env, σ, Hf, H), with k for what follows -/
abbrev Opw (K : PySem.W.Frag) (R : Md) (d : PyData) (Q : VK) (B Hf : Hp) (env : Nv) (σ : L2.St) (H : Hp) : Prop :=
  ∀ v Hf' H', StOk K B Hf' env σ H' → Same H H' → Grow Hf Hf' H → R H Hf' H' d v → Q v H'
section
variable {K : PySem.W.Frag} {R R1 R2 R3 : Md} {f1 f2 f3 : Nv → Option PyData}
theorem le1 {g : PyData → Option PyData} {r : V → Hp → VK → Prop} (mo : Bk R)
    (hr : ∀ (B Hf : Hp) (env : Nv) (σ : L2.St) (H0 H : Hp) (x : V) (d1 d : PyData) (Q : VK), StOk K B Hf env σ H → R1 H0 Hf H d1 x → g d1 = some d → Opw K R d Q B Hf env σ H → r x H Q) :
    Le K R (u1 f1 g) (fun σ H Q => tX K R1 f1 σ H fun x H1 => r x H1 Q) := fun σ H Q ⟨B, Hf, env, d, S, z, k⟩ => by
  obtain ⟨d1, z1, z2⟩ := Option.bind_eq_some_iff.mp z
  refine ⟨B, Hf, env, d1, S, z1, fun x Hf1 H1 S1 s1 g1 r1 => ?_⟩
  exact hr B Hf1 env σ H H1 x d1 d Q S1 r1 z2 fun v Hf' H' S' s' g' q => k v Hf' H' S' (s1.trans s') (g1.trans s1 g') (mo.to s1 q)
theorem le2 {g : PyData → PyData → Option PyData} {r : V → V → Hp → VK → Prop} (w1 : Fw R1) (mo : Bk R)
    (hr : ∀ (B Hf : Hp) (env : Nv) (σ : L2.St) (H0 H : Hp) (x y : V) (d1 d2 d : PyData) (Q : VK), StOk K B Hf env σ H → R1 H0 Hf H d1 x → R2 H0 Hf H d2 y → g d1 d2 = some d → Opw K R d Q B Hf env σ H → r x y H Q) :
    Le K R (b2 f1 f2 g) (fun σ H Q => tX K R1 f1 σ H fun x H1 => tX K R2 f2 σ H1 fun y H2 => r x y H2 Q) := fun σ H Q ⟨B, Hf, env, d, S, z, k⟩ => by
  obtain ⟨d1, z1, z2⟩ := Option.bind_eq_some_iff.mp z
  obtain ⟨d2, z2, z3⟩ := Option.bind_eq_some_iff.mp z2
  refine ⟨B, Hf, env, d1, S, z1, fun x Hf1 H1 S1 s1 g1 r1 => ⟨B, Hf1, env, d2, S1, z2, fun y Hf2 H2 S2 s2 g2 r2 => ?_⟩⟩
  exact hr B Hf2 env σ H1 H2 x y d1 d2 d Q S2 (w1.to s2 g2 r1) r2 z3 fun v Hf' H' S' s' g' q =>
    k v Hf' H' S' (s1.trans (s2.trans s')) (g1.trans s1 (g2.trans s2 g')) (mo.to (s1.trans s2) q)
theorem le3 {g : PyData → PyData → PyData → Option PyData} {r : V → V → V → Hp → VK → Prop} (w1 : Fw R1) (w2 : Fw R2) (mo : Bk R)
    (hr : ∀ (B Hf : Hp) (env : Nv) (σ : L2.St) (H0 H : Hp) (x y u : V) (d1 d2 d3 d : PyData) (Q : VK), StOk K B Hf env σ H → R1 H0 Hf H d1 x → R2 H0 Hf H d2 y → R3 H0 Hf H d3 u → g d1 d2 d3 = some d → Opw K R d Q B Hf env σ H → r x y u H Q) :
    Le K R (b3 f1 f2 f3 g) (fun σ H Q => tX K R1 f1 σ H fun x H1 => tX K R2 f2 σ H1 fun y H2 => tX K R3 f3 σ H2 fun u H3 => r x y u H3 Q) := fun σ H Q ⟨B, Hf, env, d, S, z, k⟩ => by
  obtain ⟨d1, z1, z2⟩ := Option.bind_eq_some_iff.mp z
  obtain ⟨d2, z2, z3⟩ := Option.bind_eq_some_iff.mp z2
  obtain ⟨d3, z3, z4⟩ := Option.bind_eq_some_iff.mp z3
  refine ⟨B, Hf, env, d1, S, z1, fun x Hf1 H1 S1 s1 g1 r1 => ⟨B, Hf1, env, d2, S1, z2, fun y Hf2 H2 S2 s2 g2 r2 => ⟨B, Hf2, env, d3, S2, z3, fun u Hf3 H3 S3 s3 g3 r3 => ?_⟩⟩⟩
  exact hr B Hf3 env σ H2 H3 x y u d1 d2 d3 d Q S3 (w1.to s3 g3 (w1.to (H0' := H) s2 g2 r1)) (w2.to s3 g3 r2) r3 z4 fun v Hf' H' S' s' g' q =>
    k v Hf' H' S' (s1.trans (s2.trans (s3.trans s'))) (g1.trans s1 (g2.trans s2 (g3.trans s3 g'))) (mo.to (s1.trans (s2.trans s3)) q)
end

/-! ### scalars -/
def scV : PyData → Option V
  | .none => some .non
  | .bool b => some (.bl b)
  | .int i => some (.int i)
  | .str x => some (.str x)
  | _ => none
section
variable {K : PySem.W.Frag} {B Hf H H0 Hf' H' : Hp} {env : Nv} {σ : L2.St} {d : PyData} {v x : V} {Q : VK}
theorem sc_rp (h : scV d = some x) : Rp K H d x := by
  cases d <;> first | (cases h; exact rfl) | cases h
theorem rp_sc (h : scV d = some x) (r : Rp K H d v) : v = x := by
  cases d <;> first | (cases h; exact r) | cases h
theorem rq_sc (h : scV d = some x) (r : RQ K H0 Hf H d v) : v = x := by
  rcases r with r | ⟨p, _, _, r⟩
  · exact rp_sc h r
  · cases d <;> first | exact r.elim | cases h
theorem rq_int {i : Int} (r : RQ K H0 Hf H (.int i) v) : v = .int i := rq_sc rfl r
theorem rq_bl {i : Bool} (r : RQ K H0 Hf H (.bool i) v) : v = .bl i := rq_sc rfl r
/-- a scalar's end -/
theorem opw_sc (S : StOk K B Hf env σ H) (h : scV d = some x) (k : Opw K (RF K) d Q B Hf env σ H) : Q x H := k x Hf H S (Same.refl H) .refl (sc_rp h)
theorem opw_int {i : Int} (S : StOk K B Hf env σ H) (k : Opw K (RF K) (.int i) Q B Hf env σ H) : Q (.int i) H := opw_sc S rfl k
theorem opw_bl {i : Bool} (S : StOk K B Hf env σ H) (k : Opw K (RF K) (.bool i) Q B Hf env σ H) : Q (.bl i) H := opw_sc S rfl k
/-- a new tuple's end -/
theorem opw_tup {ds : List PyData} {xs : List V} (S : StOk K B Hf env σ H) (r : RpA K Hf ds xs) (k : Opw K (RF K) (.tuple ds) Q B Hf env σ H) {p : Addr} (hp : H p = none) : Q (.ref p) (upd H p (.tup xs)) :=
  k (.ref p) _ _ (S.newF hp) (same_new hp) (grow_new hp S.sub) ⟨p, xs, rfl, .inl (.inl upd_same), RpA.mono ((same_new (S.hfree hp))) _ _ r⟩
/-- a new list's end -/
theorem opw_lst {ds : List PyData} {xs : List V} (S : StOk K B Hf env σ H) (r : RpA K Hf ds xs) (k : Opw K (RO K) (.list ds) Q B Hf env σ H) {p : Addr} (hp : H p = none) : Q (.ref p) (upd H p (.lst xs)) :=
  k (.ref p) Hf _ (S.new hp) (same_new hp) .refl ⟨p, rfl, hp, S.hfree hp, xs, upd_same, r⟩
/-- a new dict's end -/
theorem opw_dct {es : List (PyData × PyData)} {kvs : List (Key × V)} (S : StOk K B Hf env σ H) (r : RpK K Hf es kvs) (k : Opw K (RO K) (.dict es) Q B Hf env σ H) {p : Addr} (hp : H p = none) : Q (.ref p) (upd H p (.dK kvs)) :=
  k (.ref p) Hf _ (S.new hp) (same_new hp) .refl ⟨p, rfl, hp, S.hfree hp, kvs, upd_same, r⟩
/-- sequences that are looked at -/
theorem rq_lst {ds : List PyData} (S : StOk K B Hf env σ H) (r : RQ K H0 Hf H (.list ds) v) : ∃ a xs, v = .ref a ∧ SqL K H a xs ∧ RpA K Hf ds xs := by
  rcases r with ⟨a, xs, e, h, r⟩ | ⟨p, e, _, xs, h, r⟩
  · exact ⟨a, xs, e, S.sub.lst h, r⟩
  · exact ⟨p, xs, e, .inl (.inl h), r⟩
theorem rq_tup {ds : List PyData} (S : StOk K B Hf env σ H) (r : RQ K H0 Hf H (.tuple ds) v) : ∃ a xs, v = .ref a ∧ SqT K H a xs ∧ RpA K Hf ds xs := by
  rcases r with ⟨a, xs, e, h, r⟩ | ⟨p, e, _, r⟩
  · exact ⟨a, xs, e, S.sub.tup h, r⟩
  · exact r.elim
theorem rq_dct {es : List (PyData × PyData)} (S : StOk K B Hf env σ H) (r : RQ K H0 Hf H (.dict es) v) : ∃ a kvs, v = .ref a ∧ Rd H a (.dK kvs) ∧ RpK K Hf es kvs := by
  rcases r with ⟨a, xs, e, h, r⟩ | ⟨p, e, _, xs, h, r⟩
  · exact ⟨a, xs, e, S.sub a _ (.inl h), r⟩
  · exact ⟨p, xs, e, .inl h, r⟩
theorem opw_fr (S : StOk K B Hf env σ H) (r : Rp K Hf d v) (k : Opw K (RF K) d Q B Hf env σ H) : Q v H := k v Hf H S (Same.refl H) .refl r
end

/-! ### constants, names -/
section
variable {X : Cx} {e a b c : Expr} {f1 f2 f3 : Nv → Option PyData} {pos : Pos}
def kD (d : PyData) : Nv → Option PyData := fun _ => some d
theorem c_con {d : PyData} {v : V} (h : PE X e (tC v)) (r : scV d = some v) : PF X e (kD d) := pe_imp h fun σ H Q ⟨B, Hf, env, d', S, z, k⟩ => by
  cases z
  exact opw_sc S r k
theorem c_int {i : Int} {j : Nat} {pos : Pos} : PF X (.Constant (.int i) j pos) (kD (.int i)) := c_con pe_int rfl
theorem c_bool {i : Bool} {j : Nat} {pos : Pos} : PF X (.Constant (.bool i) j pos) (kD (.bool i)) := c_con pe_bl rfl
theorem c_none {j : Nat} {pos : Pos} : PF X (.Constant .none j pos) (kD .none) := c_con pe_non rfl
theorem c_str {x : Str} {j : Nat} {pos : Pos} : PF X (.Constant (.str x) j pos) (kD (.str x)) := c_con pe_str rfl
/-- a module's constant -/
theorem c_gint {x : Str} {i : Int} (hg : Gl X x) (hm : ∃ t, X.mg x = some (.int i t)) (hd : (x == ("__debug__" : Str)) = false := by decide) : PF X (.Name x pos) (kD (.int i)) := by
  obtain ⟨t, hm⟩ := hm
  exact c_con (pe_glob (v := .int i) hg hm ⟨t, rfl⟩ hd) rfl
theorem c_gstr {x y : Str} (hg : Gl X x) (hm : ∃ t, X.mg x = some (.str y t)) (hd : (x == ("__debug__" : Str)) = false := by decide) : PF X (.Name x pos) (kD (.str y)) := by
  obtain ⟨t, hm⟩ := hm
  exact c_con (pe_glob (v := .str y) hg hm ⟨t, rfl⟩ hd) rfl
def nF (i : Nat) : Nv → Option PyData := fun env => match env[i]? with
  | some (.fr d) => some d
  | _ => none
def nW (i : Nat) : Nv → Option PyData := fun env => match env[i]? with
  | some (.ow d) => some d
  | _ => none
def nQ (i : Nat) : Nv → Option PyData := fun env => match env[i]? with
  | some (.fr d) => some d
  | some (.ow d) => some d
  | _ => none
theorem nF_at {i : Nat} {env : Nv} {d : PyData} (h : nF i env = some d) : env[i]? = some (.fr d) := by
  unfold nF at h
  split at h
  · rename_i q
    cases h
    exact q
  · cases h
theorem nW_at {i : Nat} {env : Nv} {d : PyData} (h : nW i env = some d) : env[i]? = some (.ow d) := by
  unfold nW at h
  split at h
  · rename_i q
    cases h
    exact q
  · cases h
theorem nQ_at {i : Nat} {env : Nv} {d : PyData} (h : nQ i env = some d) : env[i]? = some (.fr d) ∨ env[i]? = some (.ow d) := by
  unfold nQ at h
  split at h
  · rename_i q
    cases h
    exact .inl q
  · rename_i q
    cases h
    exact .inr q
  · cases h
theorem c_nF {i : Nat} (h : PE X e (tVar i)) : PF X e (nF i) := pe_imp h fun σ H Q ⟨B, Hf, env, d, S, z, k⟩ => by
  obtain ⟨v, e1, r⟩ := S.cell i _ (nF_at z)
  exact ⟨v, e1, opw_fr S r k⟩
theorem c_nW {i : Nat} (h : PE X e (tVar i)) : PW' X e (nW i) := pe_imp h fun σ H Q ⟨B, Hf, env, d, S, z, k⟩ => by
  obtain ⟨p, e1, _, hf, r⟩ := S.cell i _ (nW_at z)
  exact ⟨.ref p, e1, k _ Hf H S (Same.refl H) .refl ⟨p, rfl, hf, r⟩⟩
theorem c_nQ {i : Nat} (h : PE X e (tVar i)) : PQ X e (nQ i) := pe_imp h fun σ H Q ⟨B, Hf, env, d, S, z, k⟩ => by
  rcases nQ_at z with z | z
  · obtain ⟨v, e1, r⟩ := S.cell i _ z
    exact ⟨v, e1, k _ Hf H S (Same.refl H) .refl (.inl r)⟩
  · obtain ⟨p, e1, _, hf, r⟩ := S.cell i _ z
    exact ⟨.ref p, e1, k _ Hf H S (Same.refl H) .refl (.inr ⟨p, rfl, hf, r⟩)⟩

/-! ### numbers -/
def onI (g : Int → Int → Option PyData) : PyData → PyData → Option PyData
  | .int i, .int j => g i j
  | _, _ => none
theorem onI_some {g : Int → Int → Option PyData} : ∀ {d1 d2 d : PyData}, onI g d1 d2 = some d → ∃ i j, d1 = .int i ∧ d2 = .int j ∧ g i j = some d
  | .int i, .int j, _, h => ⟨i, j, rfl, rfl, h⟩
  | .int _, .none, _, h => by cases h
  | .int _, .bool _, _, h => by cases h
  | .int _, .str _, _, h => by cases h
  | .int _, .list _, _, h => by cases h
  | .int _, .tuple _, _, h => by cases h
  | .int _, .dict _, _, h => by cases h
  | .none, _, _, h => by cases h
  | .bool _, _, _, h => by cases h
  | .str _, _, _, h => by cases h
  | .list _, _, _, h => by cases h
  | .tuple _, _, _, h => by cases h
  | .dict _, _, _, h => by cases h
/-- two ints, a scalar -/
theorem le_ints {K : PySem.W.Frag} {g : Int → Int → Option PyData} {r : R2} (hr : ∀ i j d, g i j = some d → ∃ v, scV d = some v ∧ ∀ (H : Hp) (Q : VK), Q v H → r (.int i) (.int j) H Q) :
    Le K (RF K) (b2 f1 f2 (onI g)) (tOp r (tX K (RQ K) f1) (tX K (RQ K) f2)) := le2 (R1 := RQ K) (R2 := RQ K) fwQ bkF fun B Hf env σ H0 H x y d1 d2 d Q S r1 r2 z k => by
  obtain ⟨i, j, rfl, rfl, z⟩ := onI_some z
  have e1 := rq_int r1
  have e2 := rq_int r2
  subst e1 e2
  obtain ⟨v, hv, q⟩ := hr _ _ _ z
  exact q H Q (opw_sc S hv k)
def aAdd : PyData → PyData → Option PyData := onI fun i j => some (.int (i + j))
def aSub : PyData → PyData → Option PyData := onI fun i j => some (.int (i - j))
/-- one factor below 2 ^ 64 -/
def okMul (i j : Int) : Bool := Nat.blt i.natAbs 18446744073709551616 || Nat.blt j.natAbs 18446744073709551616
def aMul : PyData → PyData → Option PyData := onI fun i j => if okMul i j then some (.int (i * j)) else none
def aDiv : PyData → PyData → Option PyData := onI fun i j => if decide (j ≠ 0) && Nat.blt j.natAbs 1073741824 then some (.int (i.fdiv j)) else none
def aMod : PyData → PyData → Option PyData := onI fun i j => if decide (j ≠ 0) then some (.int (i.fmod j)) else none
def aPow : PyData → PyData → Option PyData := onI fun i j => if decide (0 ≤ j) && decide (j ≤ 1000) && Nat.blt i.natAbs 18446744073709551616 then some (.int (i ^ j.toNat)) else none
theorem okMul_c {i j : Int} (h : okMul i j = true) : CMul i j := by
  have z : ∀ k : Int, Nat.blt k.natAbs 18446744073709551616 = true → -(2 ^ 64) < k ∧ k < 2 ^ 64 := fun k h => by
    have h := Nat.blt_eq.mp h
    omega
  unfold okMul at h
  rcases Bool.or_eq_true_iff.mp h with h | h
  · exact .inl (z i h)
  · exact .inr (z j h)
theorem c_add (ha : PQ X a f1) (hb : PQ X b f2) : PF X (.BinOp a .Add b pos) (b2 f1 f2 aAdd) := (le_ints fun i j d z => ⟨.int (i + j), by cases z; rfl, fun H Q q => ⟨i, j, rfl, rfl, q⟩⟩).pe (pe_op op_add ha hb)
theorem c_sub (ha : PQ X a f1) (hb : PQ X b f2) : PF X (.BinOp a .Sub b pos) (b2 f1 f2 aSub) := (le_ints fun i j d z => ⟨.int (i - j), by cases z; rfl, fun H Q q => ⟨i, j, rfl, rfl, q⟩⟩).pe (pe_op op_sub ha hb)
theorem c_mul (ha : PQ X a f1) (hb : PQ X b f2) : PF X (.BinOp a .Mult b pos) (b2 f1 f2 aMul) := (le_ints fun i j d z => by
  by_cases h : okMul i j = true
  · rw [if_pos h] at z
    exact ⟨.int (i * j), by cases z; rfl, fun H Q q => ⟨i, j, rfl, rfl, okMul_c h, q⟩⟩
  · rw [if_neg h] at z
    cases z).pe (pe_op op_mul ha hb)
theorem c_div (ha : PQ X a f1) (hb : PQ X b f2) : PF X (.BinOp a .FloorDiv b pos) (b2 f1 f2 aDiv) := (le_ints fun i j d z => by
  by_cases h : (decide (j ≠ 0) && Nat.blt j.natAbs 1073741824) = true
  · rw [if_pos h] at z
    obtain ⟨h1, h2⟩ := Bool.and_eq_true_iff.mp h
    exact ⟨.int (i.fdiv j), by cases z; rfl, fun H Q q => ⟨i, j, rfl, rfl, ⟨of_decide_eq_true h1, Nat.blt_eq.mp h2⟩, q⟩⟩
  · rw [if_neg h] at z
    cases z).pe (pe_op op_fdivN ha hb)
theorem c_mod (ha : PQ X a f1) (hb : PQ X b f2) : PF X (.BinOp a .Mod b pos) (b2 f1 f2 aMod) := (le_ints fun i j d z => by
  by_cases h : decide (j ≠ 0) = true
  · rw [if_pos h] at z
    exact ⟨.int (i.fmod j), by cases z; rfl, fun H Q q => ⟨i, j, rfl, rfl, of_decide_eq_true h, q⟩⟩
  · rw [if_neg h] at z
    cases z).pe (pe_op op_modN ha hb)
theorem c_pow (ha : PQ X a f1) (hb : PQ X b f2) : PF X (.BinOp a .Pow b pos) (b2 f1 f2 aPow) := (le_ints fun i j d z => by
  by_cases h : (decide (0 ≤ j) && decide (j ≤ 1000) && Nat.blt i.natAbs 18446744073709551616) = true
  · rw [if_pos h] at z
    obtain ⟨h1, h2⟩ := Bool.and_eq_true_iff.mp h
    obtain ⟨h0, h1⟩ := Bool.and_eq_true_iff.mp h1
    have e1 := of_decide_eq_true h1
    exact ⟨.int (i ^ j.toNat), by cases z; rfl, fun H Q q => ⟨i, j, rfl, rfl, ⟨of_decide_eq_true h0, by omega, Nat.blt_eq.mp h2⟩, q⟩⟩
  · rw [if_neg h] at z
    cases z).pe (pe_op op_pow ha hb)
def aNeg : PyData → Option PyData
  | .int i => some (.int (-i))
  | _ => none
theorem c_neg (ha : PQ X a f1) : PF X (.UnaryOp .USub a pos) (u1 f1 aNeg) := Le.pe (t := tUn (rU fun i => .int (-i)) _) (le1 (g := aNeg) (R1 := RQ X.K) (r := rU fun i => .int (-i)) bkF fun B Hf env σ H0 H x d1 d Q S r1 z k => by
  obtain ⟨i, rfl⟩ : ∃ i, d1 = .int i := by
    cases d1 <;> first | exact ⟨_, rfl⟩ | cases z
  cases z
  have e1 := rq_int r1
  subst e1
  exact ⟨_, rfl, opw_int S k⟩) (pe_un un_neg ha)

/-! ### comparisons -/
/-- a test's pure reading -/
def tT (K : PySem.W.Frag) (f : Nv → Option Bool) : TT := fun σ H Q => ∃ B Hf env c, StOk K B Hf env σ H ∧ f env = some c ∧
  ∀ Hf' H', StOk K B Hf' env σ H' → Same H H' → Grow Hf Hf' H → Q c H'
abbrev PB (X : Cx) (e : Expr) (f : Nv → Option Bool) : Prop := PT X e (tT X.K f)
def asB : PyData → Option Bool
  | .bool b => some b
  | _ => none
def oB (f : Nv → Option PyData) : Nv → Option Bool := fun env => (f env).bind asB
theorem pt_imp {t t' : TT} (h : PT X e t) (k : ∀ σ H Q, t' σ H Q → t σ H Q) : PT X e t' := ⟨fun pins s σ H Q I q => h.run pins s σ H Q I (k σ H Q q)⟩
theorem asB_of {d : PyData} {c : Bool} (h : asB d = some c) : d = .bool c := by
  cases d <;> first | (cases h; rfl) | cases h
theorem le_test {K : PySem.W.Frag} {f : Nv → Option PyData} {t : TE} (l : Le K (RF K) f t) {σ : L2.St} {H : Hp} {Q : Bool → Hp → Prop} (h : tT K (oB f) σ H Q) : t σ H fun x H' => ∃ k, x = .bl k ∧ Q k H' := by
  obtain ⟨B, Hf, env, c, S, z, k⟩ := h
  obtain ⟨d, z1, z2⟩ := Option.bind_eq_some_iff.mp z
  have e := asB_of z2
  subst e
  exact l σ H _ ⟨B, Hf, env, _, S, z1, fun v Hf' H' S' s' g' r => ⟨c, r, k Hf' H' S' s' g'⟩⟩
theorem Le.pt {K : PySem.W.Frag} {f : Nv → Option PyData} {t : TE} (e : K = X.K) (l : Le K (RF K) f t) {ex : Expr} (h : PT X ex (tTest t)) : PB X ex (oB f) := by
  subst e
  exact pt_imp h fun σ H Q q => le_test l q
/-- any expression that gives True or False, as a test -/
theorem b_val {f : Nv → Option PyData} (h : PF X e f) (he : ∀ whole, isTrue e X.env whole = (do let v ← whole; standAt e.pos; holding [v] (truthy v)) := by intro _; rfl) : PB X e (oB f) :=
  pt_imp (pt_val h he) fun σ H Q q => le_test (fun _ _ _ z => z) q
def cB (p : Int → Int → Bool) : PyData → PyData → Option PyData := onI fun i j => some (.bool (p i j))
abbrev cLt := cB fun i j => decide (i < j)
abbrev cLe := cB fun i j => decide (i ≤ j)
abbrev cGt := cB fun i j => decide (j < i)
abbrev cGe := cB fun i j => decide (j ≤ i)
theorem le_cmp {K : PySem.W.Frag} {p : Int → Int → Bool} : Le K (RF K) (b2 f1 f2 (cB p)) (tOp (rI0 fun i j => .bl (p i j)) (tX K (RQ K) f1) (tX K (RQ K) f2)) :=
  le_ints fun i j d z => ⟨.bl (p i j), by cases z; rfl, fun H Q q => ⟨i, j, rfl, rfl, q⟩⟩
theorem c_lt (ha : PQ X a f1) (hb : PQ X b f2) : PF X (.Compare a [.Lt] [b] pos) (b2 f1 f2 cLt) := le_cmp.pe (pe_cmpR op_lt ha hb (nomark _))
theorem c_le (ha : PQ X a f1) (hb : PQ X b f2) : PF X (.Compare a [.LtE] [b] pos) (b2 f1 f2 cLe) := le_cmp.pe (pe_cmpR op_le ha hb (nomark _))
theorem c_gt (ha : PQ X a f1) (hb : PQ X b f2) : PF X (.Compare a [.Gt] [b] pos) (b2 f1 f2 cGt) := le_cmp.pe (pe_cmpR op_gt ha hb (nomark _))
theorem c_ge (ha : PQ X a f1) (hb : PQ X b f2) : PF X (.Compare a [.GtE] [b] pos) (b2 f1 f2 cGe) := le_cmp.pe (pe_cmpR op_ge ha hb (nomark _))
theorem b_lt (ha : PQ X a f1) (hb : PQ X b f2) : PB X (.Compare a [.Lt] [b] pos) (oB (b2 f1 f2 cLt)) := le_cmp.pt rfl (pt_cmpR op_lt ha hb (nomark _))
theorem b_le (ha : PQ X a f1) (hb : PQ X b f2) : PB X (.Compare a [.LtE] [b] pos) (oB (b2 f1 f2 cLe)) := le_cmp.pt rfl (pt_cmpR op_le ha hb (nomark _))
theorem b_gt (ha : PQ X a f1) (hb : PQ X b f2) : PB X (.Compare a [.Gt] [b] pos) (oB (b2 f1 f2 cGt)) := le_cmp.pt rfl (pt_cmpR op_gt ha hb (nomark _))
theorem b_ge (ha : PQ X a f1) (hb : PQ X b f2) : PB X (.Compare a [.GtE] [b] pos) (oB (b2 f1 f2 cGe)) := le_cmp.pt rfl (pt_cmpR op_ge ha hb (nomark _))
/-- a < b < c and the like: b once; c is not asked where the first fails -/
def ch3 (f1 f2 f3 : Nv → Option PyData) (p q : Int → Int → Bool) : Nv → Option PyData := fun env => (f1 env).bind fun a => (f2 env).bind fun b => (cB p a b).bind fun r => if asB r = some true then (f3 env).bind fun c => cB q b c else some (.bool false)
theorem le_chain {K : PySem.W.Frag} {p q : Int → Int → Bool} : Le K (RF K) (ch3 f1 f2 f3 p q) (tChain (rI0 fun i j => .bl (p i j)) (rI0 fun i j => .bl (q i j)) (tX K (RQ K) f1) (tX K (RQ K) f2) (tX K (RQ K) f3)) := fun σ H Q ⟨B, Hf, env, d, S, z, k⟩ => by
  obtain ⟨d1, z1, z⟩ := Option.bind_eq_some_iff.mp z
  obtain ⟨d2, z2, z⟩ := Option.bind_eq_some_iff.mp z
  obtain ⟨d3, z3, z⟩ := Option.bind_eq_some_iff.mp z
  refine ⟨B, Hf, env, d1, S, z1, fun x Hf1 H1 S1 s1 g1 r1 => ⟨B, Hf1, env, d2, S1, z2, fun y Hf2 H2 S2 s2 g2 r2 => ?_⟩⟩
  obtain ⟨i, rfl⟩ : ∃ i, d1 = .int i := by
    cases d1 <;> first | exact ⟨_, rfl⟩ | cases z3
  obtain ⟨j, rfl⟩ : ∃ j, d2 = .int j := by
    cases d2 <;> first | exact ⟨_, rfl⟩ | cases z3
  cases z3
  refine ⟨i, j, rq_int (fwQ.to (H0 := H) (H0' := H) s2 g2 r1), rq_int r2, p i j, rfl, ?_⟩
  have gs := s1.trans s2
  have gg := g1.trans s1 g2
  cases e : p i j with
  | false =>
    rw [e] at z
    cases z
    exact iteF (k _ Hf2 H2 S2 gs gg rfl)
  | true =>
    rw [e] at z
    obtain ⟨d4, z4, z⟩ := Option.bind_eq_some_iff.mp z
    obtain ⟨l, rfl⟩ : ∃ l, d4 = .int l := by
      cases d4 <;> first | exact ⟨_, rfl⟩ | cases z
    cases z
    refine iteT ⟨B, Hf2, env, _, S2, z4, fun u Hf3 H3 S3 s3 g3 r3 => ⟨j, l, rq_int r2, rq_int r3, ?_⟩⟩
    exact k _ Hf3 H3 S3 (gs.trans s3) (gg.trans gs g3) rfl
theorem c_chain {op op' : CmpOp} {p q : Int → Int → Bool} (ho : OpR X (compareOp op) (rI0 fun i j => .bl (p i j))) (ho' : OpR X (compareOp op') (rI0 fun i j => .bl (q i j))) (ha : PQ X a f1) (hb : PQ X b f2) (hc : PQ X c f3)
    (h : PE X (.Compare a [op, op'] [b, c] pos) (tChain (rI0 fun i j => .bl (p i j)) (rI0 fun i j => .bl (q i j)) (tX X.K (RQ X.K) f1) (tX X.K (RQ X.K) f2) (tX X.K (RQ X.K) f3))) : PF X (.Compare a [op, op'] [b, c] pos) (ch3 f1 f2 f3 p q) := le_chain.pe h
theorem b_chain {op op' : CmpOp} {p q : Int → Int → Bool} (h : PT X (.Compare a [op, op'] [b, c] pos) (tTest (tChain (rI0 fun i j => .bl (p i j)) (rI0 fun i j => .bl (q i j)) (tX X.K (RQ X.K) f1) (tX X.K (RQ X.K) f2) (tX X.K (RQ X.K) f3)))) : PB X (.Compare a [op, op'] [b, c] pos) (oB (ch3 f1 f2 f3 p q)) := le_chain.pt rfl h
end
end Q7

-- part Qc
set_option Elab.async false
set_option linter.all false
set_option maxRecDepth 100000
/-! Qc: equality, truth, subscripts, displays, calls. -/
namespace Q7
open PySem PySem.Spec PyProof.Rows L2

/-! ### data as a whole -/
section
variable {K : PySem.W.Frag} {B Hf H H0 Hf' H' : Hp} {env : Nv} {σ : L2.St} {v x : V} {Q : VK}
mutual
theorem rp_dp (s : Sub Hf H) : ∀ (d : PyData) (v : V), d.canLay0 = true → Rp K Hf d v → Dp K H v d
  | .none, _, _, h => by
    cases (show _ = V.non from h)
    exact .non
  | .bool b, _, _, h => by
    cases (show _ = V.bl b from h)
    exact .bl b
  | .int i, _, _, h => by
    cases (show _ = V.int i from h)
    exact .int i
  | .str x, _, _, h => by
    cases (show _ = V.str x from h)
    exact .str x
  | .list ds, _, c, ⟨a, xs, e, h, r⟩ => by
    subst e
    exact .lst (s.lst h) (rp_dpA s ds xs (by simpa [PyData.canLay0] using c) r)
  | .tuple ds, _, c, ⟨a, xs, e, h, r⟩ => by
    subst e
    exact .tup (s.tup h) (rp_dpA s ds xs (by simpa [PyData.canLay0] using c) r)
  | .dict es, _, c, _ => by simp [PyData.canLay0] at c
theorem rp_dpA (s : Sub Hf H) : ∀ (ds : List PyData) (xs : List V), PyData.canLayAll0 ds = true → RpA K Hf ds xs → DpAll K H xs ds
  | [], _, _, h => by
    cases (show _ = ([] : List V) from h)
    exact .nil
  | d :: ds, _, c, ⟨x, ys, e, h, r⟩ => by
    subst e
    have c2 : PyData.canLay0 d = true ∧ PyData.canLayAll0 ds = true := by simpa [PyData.canLayAll0] using c
    exact .cons (rp_dp s d x c2.1 h) (rp_dpA s ds ys c2.2 r)
end
theorem rq_dp {d : PyData} (S : StOk K B Hf env σ H) (c : d.canLay0 = true) (r : RQ K H0 Hf H d v) : Dp K H v d := by
  rcases r with r | ⟨p, rfl, _, r⟩
  · exact rp_dp S.sub d v c r
  · cases d with
    | list ds =>
      obtain ⟨xs, h, r⟩ := r
      exact .lst (.inl (.inl h)) (rp_dpA S.sub ds xs (by simpa [PyData.canLay0] using c) r)
    | none => exact r.elim
    | bool _ => exact r.elim
    | int _ => exact r.elim
    | str _ => exact r.elim
    | tuple _ => exact r.elim
    | dict _ => simp [PyData.canLay0] at c
end

/-! ### == and != -/
def eqD : PyData → PyData → Option Bool
  | .int i, .int j => some (decide (i = j))
  | d, e => if SeqAt.shaped d && SeqAt.shaped e then some (PyData.eqv d e) else none
def cEq (d e : PyData) : Option PyData := (eqD d e).map .bool
def cNe (d e : PyData) : Option PyData := (eqD d e).map fun b => .bool (!b)
theorem eqD_cases {d e : PyData} {b : Bool} (h : eqD d e = some b) : (∃ i j, d = .int i ∧ e = .int j ∧ b = decide (i = j)) ∨ (SeqAt.shaped d = true ∧ SeqAt.shaped e = true ∧ b = PyData.eqv d e) := by
  unfold eqD at h
  split at h
  · cases h
    exact .inl ⟨_, _, rfl, rfl, rfl⟩
  · split at h
    · rename_i q
      obtain ⟨q1, q2⟩ := Bool.and_eq_true_iff.mp q
      cases h
      exact .inr ⟨q1, q2, rfl⟩
    · cases h
theorem canLay_sh {d : PyData} (h : SeqAt.shaped d = true) : d.canLay0 = true := (Bool.and_eq_true_iff.mp h).1
section
variable {X : Cx} {e a b c : Expr} {f1 f2 f3 : Nv → Option PyData} {pos : Pos}
theorem le_eq {K : PySem.W.Frag} : Le K (RF K) (b2 f1 f2 cEq) (tOp (fun x y H Q => rEq x y H Q ∨ rEqD K x y H Q) (tX K (RQ K) f1) (tX K (RQ K) f2)) :=
  le2 (R1 := RQ K) (R2 := RQ K) fwQ bkF fun B Hf env σ H0 H x y d1 d2 d Q S r1 r2 z k => by
    obtain ⟨b, hb, rfl⟩ := Option.map_eq_some_iff.mp z
    rcases eqD_cases hb with ⟨i, j, rfl, rfl, rfl⟩ | ⟨s1, s2, rfl⟩
    · have e1 := rq_int r1
      have e2 := rq_int r2
      subst e1 e2
      refine .inl ⟨rfl, ?_⟩
      have q := opw_bl S k
      by_cases h : i = j
      · rw [decide_eq_true (show V.int i = V.int j from congrArg V.int h)]
        rw [decide_eq_true h] at q
        exact q
      · rw [decide_eq_false (show ¬ V.int i = V.int j from fun z => h (V.int.inj z))]
        rw [decide_eq_false h] at q
        exact q
    · exact .inr ⟨d1, d2, rq_dp S (canLay_sh s1) r1, rq_dp S (canLay_sh s2) r2, s1, s2, opw_bl S k⟩
theorem le_ne {K : PySem.W.Frag} : Le K (RF K) (b2 f1 f2 cNe) (tOp (fun x y H Q => rNe x y H Q ∨ rNeD K x y H Q) (tX K (RQ K) f1) (tX K (RQ K) f2)) :=
  le2 (R1 := RQ K) (R2 := RQ K) fwQ bkF fun B Hf env σ H0 H x y d1 d2 d Q S r1 r2 z k => by
    obtain ⟨b, hb, rfl⟩ := Option.map_eq_some_iff.mp z
    rcases eqD_cases hb with ⟨i, j, rfl, rfl, rfl⟩ | ⟨s1, s2, rfl⟩
    · have e1 := rq_int r1
      have e2 := rq_int r2
      subst e1 e2
      refine .inl ⟨rfl, ?_⟩
      have q := opw_bl S k
      by_cases h : i = j
      · rw [decide_eq_true (show V.int i = V.int j from congrArg V.int h)]
        rw [decide_eq_true h] at q
        exact q
      · rw [decide_eq_false (show ¬ V.int i = V.int j from fun z => h (V.int.inj z))]
        rw [decide_eq_false h] at q
        exact q
    · exact .inr ⟨d1, d2, rq_dp S (canLay_sh s1) r1, rq_dp S (canLay_sh s2) r2, s1, s2, opw_bl S k⟩
theorem c_eq (hu : X.A.units + 64 < cLine) (ha : PQ X a f1) (hb : PQ X b f2) : PF X (.Compare a [.Eq] [b] pos) (b2 f1 f2 cEq) := le_eq.pe (pe_cmpR (op_eq.or (op_eqD hu)) ha hb (nomark _))
theorem c_ne (hu : X.A.units + 64 < cLine) (ha : PQ X a f1) (hb : PQ X b f2) : PF X (.Compare a [.NotEq] [b] pos) (b2 f1 f2 cNe) := le_ne.pe (pe_cmpR (op_ne.or (op_neD hu)) ha hb (nomark _))
theorem b_eq (hu : X.A.units + 64 < cLine) (ha : PQ X a f1) (hb : PQ X b f2) : PB X (.Compare a [.Eq] [b] pos) (oB (b2 f1 f2 cEq)) := le_eq.pt rfl (pt_cmpR (op_eq.or (op_eqD hu)) ha hb (nomark _))
theorem b_ne (hu : X.A.units + 64 < cLine) (ha : PQ X a f1) (hb : PQ X b f2) : PB X (.Compare a [.NotEq] [b] pos) (oB (b2 f1 f2 cNe)) := le_ne.pt rfl (pt_cmpR (op_ne.or (op_neD hu)) ha hb (nomark _))

/-! ### is None -/
def isNone : PyData → Bool
  | .none => true
  | _ => false
def cIsN : PyData → PyData → Option PyData
  | d, .none => some (.bool (isNone d))
  | _, _ => none
def cNotN : PyData → PyData → Option PyData
  | d, .none => some (.bool (!isNone d))
  | _, _ => none
theorem rq_isN {K : PySem.W.Frag} {H0 Hf H : Hp} {d : PyData} {v : V} (r : RQ K H0 Hf H d v) : decide (v = .non) = isNone d := by
  have nr : ∀ p : Addr, decide (V.ref p = V.non) = false := fun p => decide_eq_false fun z => nomatch z
  rcases r with r | ⟨p, rfl, _, r⟩
  · cases d with
    | none =>
      cases (show v = V.non from r)
      rfl
    | bool b =>
      cases (show v = V.bl b from r)
      rfl
    | int i =>
      cases (show v = V.int i from r)
      rfl
    | str i =>
      cases (show v = V.str i from r)
      rfl
    | list ds =>
      obtain ⟨p, xs, rfl, _⟩ := r
      exact nr p
    | tuple ds =>
      obtain ⟨p, xs, rfl, _⟩ := r
      exact nr p
    | dict ds =>
      obtain ⟨p, xs, rfl, _⟩ := r
      exact nr p
  · cases d with
    | list ds => exact nr p
    | dict ds => exact nr p
    | none => exact r.elim
    | bool _ => exact r.elim
    | int _ => exact r.elim
    | str _ => exact r.elim
    | tuple _ => exact r.elim
theorem le_isN {K : PySem.W.Frag} : Le K (RF K) (b2 f1 f2 cIsN) (tOp (fun x y H Q => y = .non ∧ Q (.bl (decide (x = .non))) H) (tX K (RQ K) f1) (tX K (RQ K) f2)) :=
  le2 (R1 := RQ K) (R2 := RQ K) fwQ bkF fun B Hf env σ H0 H x y d1 d2 d Q S r1 r2 z k => by
    cases d2 <;> first | skip | cases z
    all_goals first | (cases z; done) | skip
    cases z
    exact ⟨rq_sc rfl r2, by
      rw [rq_isN r1]
      exact opw_bl S k⟩
theorem le_notN {K : PySem.W.Frag} : Le K (RF K) (b2 f1 f2 cNotN) (tOp (fun x y H Q => y = .non ∧ Q (.bl (!decide (x = .non))) H) (tX K (RQ K) f1) (tX K (RQ K) f2)) :=
  le2 (R1 := RQ K) (R2 := RQ K) fwQ bkF fun B Hf env σ H0 H x y d1 d2 d Q S r1 r2 z k => by
    cases d2 <;> first | skip | cases z
    all_goals first | (cases z; done) | skip
    cases z
    exact ⟨rq_sc rfl r2, by
      rw [rq_isN r1]
      exact opw_bl S k⟩
theorem c_isN (ha : PQ X a f1) (hb : PQ X b f2) : PF X (.Compare a [.Is] [b] pos) (b2 f1 f2 cIsN) := le_isN.pe (pe_cmpR op_isN ha hb (nomark _))
theorem b_isN (ha : PQ X a f1) (hb : PQ X b f2) : PB X (.Compare a [.Is] [b] pos) (oB (b2 f1 f2 cIsN)) := le_isN.pt rfl (pt_cmpR op_isN ha hb (nomark _))
theorem c_notN (ha : PQ X a f1) (hb : PQ X b f2) : PF X (.Compare a [.IsNot] [b] pos) (b2 f1 f2 cNotN) := le_notN.pe (pe_cmpR op_notN ha hb (nomark _))
theorem b_notN (ha : PQ X a f1) (hb : PQ X b f2) : PB X (.Compare a [.IsNot] [b] pos) (oB (b2 f1 f2 cNotN)) := le_notN.pt rfl (pt_cmpR op_notN ha hb (nomark _))
/-- not in, data -/
def cNotIn : PyData → PyData → Option PyData
  | d, .list ds => if SeqAt.shaped d && SeqAt.shaped (.list ds) then some (.bool (!ds.any fun z => PyData.eqv z d)) else none
  | _, _ => none
theorem cNotIn_some {d1 d2 d : PyData} (h : cNotIn d1 d2 = some d) : ∃ ds, d2 = .list ds ∧ SeqAt.shaped d1 = true ∧ SeqAt.shaped (.list ds) = true ∧ d = .bool (!ds.any fun z => PyData.eqv z d1) := by
  unfold cNotIn at h
  split at h
  · split at h
    · rename_i q
      obtain ⟨q1, q2⟩ := Bool.and_eq_true_iff.mp q
      cases h
      exact ⟨_, rfl, q1, q2, rfl⟩
    · cases h
  · cases h
theorem c_notIn (hu : X.A.units + 65 < cLine) (ha : PQ X a f1) (hb : PQ X b f2) (hm : behindInMarks .NotIn b = false := by rfl) : PF X (.Compare a [.NotIn] [b] pos) (b2 f1 f2 cNotIn) :=
  Le.pe (t := tOp (rNotInD X.K) _ _) (le2 (R1 := RQ X.K) (R2 := RQ X.K) fwQ bkF fun B Hf env σ H0 H x y d1 d2 d Q S r1 r2 z k => by
    obtain ⟨ds, rfl, s1, s2, rfl⟩ := cNotIn_some z
    exact ⟨d1, ds, rq_dp S (canLay_sh s1) r1, rq_dp S (canLay_sh s2) r2, s1, s2, opw_bl S k⟩) (pe_cmpR (op_notInD hu) ha hb hm)

/-! ### and, or, not, if .. else -/
def bNot (f : Nv → Option Bool) : Nv → Option Bool := fun env => (f env).map not
def bAnd (f g : Nv → Option Bool) : Nv → Option Bool := fun env => (f env).bind fun c => if c then g env else some false
def bOr (f g : Nv → Option Bool) : Nv → Option Bool := fun env => (f env).bind fun c => if c then some true else g env
abbrev PBw (X : Cx) (e : Expr) (f : Nv → Option Bool) : Prop := PW X e (tT X.K f)
theorem pw_imp {t t' : TT} (h : PW X e t) (k : ∀ σ H Q, t' σ H Q → t σ H Q) : PW X e t' := ⟨fun w pins s σ H Q I q => h.run w pins s σ H Q I (k σ H Q q)⟩
section
variable {g1 g2 : Nv → Option Bool} {rest : List Expr} {K : PySem.W.Frag}
theorem b_not (ha : PB X a g1) : PB X (.UnaryOp .Not a pos) (bNot g1) := pt_imp (pt_not ha) fun σ H Q ⟨B, Hf, env, c, S, z, k⟩ => by
  obtain ⟨c0, z1, rfl⟩ := Option.map_eq_some_iff.mp z
  exact ⟨B, Hf, env, c0, S, z1, k⟩
theorem tt_and {σ : L2.St} {H : Hp} {Q : Bool → Hp → Prop} (h : tT K (bAnd g1 g2) σ H Q) : tAnd (tT K g1) (tT K g2) σ H Q := by
  obtain ⟨B, Hf, env, c, S, z, k⟩ := h
  obtain ⟨c0, z1, z2⟩ := Option.bind_eq_some_iff.mp z
  refine ⟨B, Hf, env, c0, S, z1, fun Hf1 H1 S1 s1 r1 => ?_⟩
  cases c0 with
  | true =>
    refine iteT ⟨B, Hf1, env, c, S1, z2, fun Hf2 H2 S2 s2 r2 => k Hf2 H2 S2 (s1.trans s2) (r1.trans s1 r2)⟩
  | false =>
    cases z2
    exact iteF (k Hf1 H1 S1 s1 r1)
theorem tt_or {σ : L2.St} {H : Hp} {Q : Bool → Hp → Prop} (h : tT K (bOr g1 g2) σ H Q) : tOr (tT K g1) (tT K g2) σ H Q := by
  obtain ⟨B, Hf, env, c, S, z, k⟩ := h
  obtain ⟨c0, z1, z2⟩ := Option.bind_eq_some_iff.mp z
  refine ⟨B, Hf, env, c0, S, z1, fun Hf1 H1 S1 s1 r1 => ?_⟩
  cases c0 with
  | false =>
    refine iteF ⟨B, Hf1, env, c, S1, z2, fun Hf2 H2 S2 s2 r2 => k Hf2 H2 S2 (s1.trans s2) (r1.trans s1 r2)⟩
  | true =>
    cases z2
    exact iteT (k Hf1 H1 S1 s1 r1)
theorem w_and1 (ha : PB X a g1) : PBw X (.BoolOp .And [a] pos) g1 := pw_and1 ha
theorem w_or1 (ha : PB X a g1) : PBw X (.BoolOp .Or [a] pos) g1 := pw_or1 ha
theorem w_and (ha : PB X a g1) (hb : PBw X (.BoolOp .And (b :: rest) pos) g2) : PBw X (.BoolOp .And (a :: b :: rest) pos) (bAnd g1 g2) := pw_imp (pw_and ha hb) fun _ _ _ h => tt_and h
theorem w_or (ha : PB X a g1) (hb : PBw X (.BoolOp .Or (b :: rest) pos) g2) : PBw X (.BoolOp .Or (a :: b :: rest) pos) (bOr g1 g2) := pw_imp (pw_or ha hb) fun _ _ _ h => tt_or h
theorem b_w (h : PBw X e g1) : PB X e g1 := PW.pt h
end
def vNot : PyData → Option PyData
  | .bool b => some (.bool (!b))
  | _ => none
theorem c_not (ha : PQ X a f1) : PF X (.UnaryOp .Not a pos) (u1 f1 vNot) := Le.pe (t := tNotV _) (le1 (g := vNot) (R1 := RQ X.K) (r := fun x H Q => ∃ c, x = .bl c ∧ Q (.bl (!c)) H) bkF fun B Hf env σ H0 H x d1 d Q S r1 z k => by
  obtain ⟨i, rfl⟩ : ∃ i, d1 = .bool i := by
    cases d1 <;> first | exact ⟨_, rfl⟩ | cases z
  cases z
  exact ⟨i, rq_bl r1, opw_bl S k⟩) (pe_not ha)
def vAnd (f g : Nv → Option PyData) : Nv → Option PyData := fun env => (f env).bind fun d => (asB d).bind fun c => if c then g env else some (.bool false)
def vOr (f g : Nv → Option PyData) : Nv → Option PyData := fun env => (f env).bind fun d => (asB d).bind fun c => if c then some (.bool true) else g env
theorem c_one {op : BoolOp} (ha : PF X a f1) : PF X (.BoolOp op [a] pos) f1 := pe_one ha
theorem c_and {rest : List Expr} (ha : PF X a f1) (hb : PF X (.BoolOp .And (b :: rest) pos) f2) : PF X (.BoolOp .And (a :: b :: rest) pos) (vAnd f1 f2) := pe_imp (pe_and ha hb) fun σ H Q ⟨B, Hf, env, d, S, z, k⟩ => by
  obtain ⟨d1, z1, z2⟩ := Option.bind_eq_some_iff.mp z
  obtain ⟨c, z3, z4⟩ := Option.bind_eq_some_iff.mp z2
  have e := asB_of z3
  subst e
  refine ⟨B, Hf, env, _, S, z1, fun x Hf1 H1 S1 s1 g1 r1 => ⟨c, r1, ?_⟩⟩
  cases c with
  | true => exact iteT ⟨B, Hf1, env, d, S1, z4, fun y Hf2 H2 S2 s2 g2 r2 => k y Hf2 H2 S2 (s1.trans s2) (g1.trans s1 g2) r2⟩
  | false =>
    cases z4
    exact iteF (k _ Hf1 H1 S1 s1 g1 rfl)
theorem c_or {rest : List Expr} (ha : PF X a f1) (hb : PF X (.BoolOp .Or (b :: rest) pos) f2) : PF X (.BoolOp .Or (a :: b :: rest) pos) (vOr f1 f2) := pe_imp (pe_or ha hb) fun σ H Q ⟨B, Hf, env, d, S, z, k⟩ => by
  obtain ⟨d1, z1, z2⟩ := Option.bind_eq_some_iff.mp z
  obtain ⟨c, z3, z4⟩ := Option.bind_eq_some_iff.mp z2
  have e := asB_of z3
  subst e
  refine ⟨B, Hf, env, _, S, z1, fun x Hf1 H1 S1 s1 g1 r1 => ⟨c, r1, ?_⟩⟩
  cases c with
  | false => exact iteF ⟨B, Hf1, env, d, S1, z4, fun y Hf2 H2 S2 s2 g2 r2 => k y Hf2 H2 S2 (s1.trans s2) (g1.trans s1 g2) r2⟩
  | true =>
    cases z4
    exact iteT (k _ Hf1 H1 S1 s1 g1 rfl)
def iF (g : Nv → Option Bool) (f1 f2 : Nv → Option PyData) : Nv → Option PyData := fun env => (g env).bind fun c => if c then f1 env else f2 env
theorem c_if {g : Nv → Option Bool} (hc : PB X c g) (ha : PF X a f1) (hb : PF X b f2) : PF X (.IfExp c a b pos) (iF g f1 f2) := pe_imp (pe_ifExp hc ha hb) fun σ H Q ⟨B, Hf, env, d, S, z, k⟩ => by
  obtain ⟨c0, z1, z2⟩ := Option.bind_eq_some_iff.mp z
  refine ⟨B, Hf, env, c0, S, z1, fun Hf1 H1 S1 s1 g1 => ?_⟩
  cases c0 with
  | true => exact iteT ⟨B, Hf1, env, d, S1, z2, fun y Hf2 H2 S2 s2 g2 r2 => k y Hf2 H2 S2 (s1.trans s2) (g1.trans s1 g2) r2⟩
  | false => exact iteF ⟨B, Hf1, env, d, S1, z2, fun y Hf2 H2 S2 s2 g2 r2 => k y Hf2 H2 S2 (s1.trans s2) (g1.trans s1 g2) r2⟩
end

/-! ### items -/
/-- the entry of a dict with int keys -/
def dGet : List (PyData × PyData) → Int → Option PyData
  | [], _ => none
  | (.int j, d) :: r, k => if decide (j = k) then some d else dGet r k
  | _, _ => none
def gIx : PyData → PyData → Option PyData
  | .list ds, .int i => atI ds i
  | .tuple ds, .int i => atI ds i
  | .dict es, .int k => dGet es k
  | _, _ => none
theorem rpA_atI {K : PySem.W.Frag} {H : Hp} {ds : List PyData} {xs : List V} {i : Int} {d : PyData} (r : RpA K H ds xs) (h : atI ds i = some d) : ∃ x, atI xs i = some x ∧ Rp K H d x := by
  unfold atI at h ⊢
  obtain ⟨j, h1, h2⟩ := Option.bind_eq_some_iff.mp h
  obtain ⟨x, e1, e2⟩ := r.get h2
  exact ⟨x, by rw [r.length, h1]; exact e1, e2⟩
theorem rpK_get {K : PySem.W.Frag} {H : Hp} {k : Int} {d : PyData} : ∀ {es : List (PyData × PyData)} {kvs : List (Key × V)}, RpK K H es kvs → dGet es k = some d → ∃ x, valV kvs (Sum.inl k) = some x ∧ Rp K H d x
  | [], _, _, h => by cases h
  | (j, d0) :: es, _, ⟨i, x, r, e1, e2, h, q⟩, g => by
    subst e1 e2
    unfold dGet at g
    by_cases e : i = k
    · rw [if_pos (decide_eq_true e)] at g
      cases g
      exact ⟨x, valV_pos (congrArg Sum.inl e), h⟩
    · rw [if_neg (by rw [decide_eq_false e]; exact Bool.false_ne_true)] at g
      obtain ⟨y, e1, e2⟩ := rpK_get q g
      exact ⟨y, by rw [valV_neg fun z => e (Sum.inl.inj z)]; exact e1, e2⟩
theorem rpK_none {K : PySem.W.Frag} {H : Hp} {k : Int} : ∀ {es : List (PyData × PyData)} {kvs : List (Key × V)}, RpK K H es kvs → dGet es k = none → valV kvs (Sum.inl k) = none
  | [], _, h, _ => by
    rw [show _ = ([] : List (Key × V)) from h]
    rfl
  | (j, d0) :: es, _, ⟨i, x, r, e1, e2, h, q⟩, g => by
    subst e1 e2
    unfold dGet at g
    by_cases e : i = k
    · rw [if_pos (decide_eq_true e)] at g
      cases g
    · rw [if_neg (by rw [decide_eq_false e]; exact Bool.false_ne_true)] at g
      rw [valV_neg fun z => e (Sum.inl.inj z)]
      exact rpK_none q g
section
variable {X : Cx} {e a b c : Expr} {f1 f2 f3 : Nv → Option PyData} {pos : Pos}
theorem pe_either {t1 t2 : TE} (h1 : PE X e t1) (h2 : PE X e t2) : PE X e (fun σ H Q => t1 σ H Q ∨ t2 σ H Q) := ⟨fun pins s σ H Q I q => q.elim (h1.run pins s σ H Q I) (h2.run pins s σ H Q I)⟩
def isDct : PyData → Bool
  | .dict _ => true
  | _ => false
theorem c_ix (hu : X.A.units + 64 < cLine) (ha : PQ X a f1) (hb : PQ X b f2) (hs : PlainIx b) : PF X (.Subscript a b pos) (b2 f1 f2 gIx) := by
  refine pe_imp (pe_either (pe_ix (ix_list.or ix_tup) ha hb hs) (pe_dget (by omega) ha hb hs)) fun σ H Q q => ?_
  have q0 := q
  obtain ⟨B, Hf, env, d, S, z, k⟩ := q
  obtain ⟨d1, z1, z2⟩ := Option.bind_eq_some_iff.mp z
  obtain ⟨d2, z2, z3⟩ := Option.bind_eq_some_iff.mp z2
  by_cases hd : isDct d1 = true
  · refine .inr ⟨B, Hf, env, d1, S, z1, fun x Hf1 H1 S1 s1 g1 r1 => ⟨B, Hf1, env, d2, S1, z2, fun y Hf2 H2 S2 s2 g2 r2 => ?_⟩⟩
    obtain ⟨es, rfl⟩ : ∃ es, d1 = .dict es := by
      cases d1 <;> first | exact ⟨_, rfl⟩ | cases hd
    obtain ⟨i, rfl⟩ : ∃ i, d2 = .int i := by
      cases d2 <;> first | exact ⟨_, rfl⟩ | cases z3
    obtain ⟨p, kvs, rfl, hp, rk⟩ := rq_dct S2 (fwQ.to (H0' := H1) s2 g2 r1)
    have e2 := rq_int r2
    subst e2
    obtain ⟨v, e1, rv⟩ := rpK_get rk z3
    exact ⟨p, v, rfl, .inl ⟨kvs, Sum.inl i, hp, rfl, e1.symm⟩, k v Hf2 H2 S2 (s1.trans s2) (g1.trans s1 g2) rv⟩
  · refine .inl ⟨B, Hf, env, d1, S, z1, fun x Hf1 H1 S1 s1 g1 r1 => ⟨B, Hf1, env, d2, S1, z2, fun y Hf2 H2 S2 s2 g2 r2 => ?_⟩⟩
    have r1 := fwQ.to (H0' := H1) s2 g2 r1
    obtain ⟨i, rfl⟩ : ∃ i, d2 = .int i := by
      cases d1 <;> cases d2 <;> first | exact ⟨_, rfl⟩ | cases z3
    have e2 := rq_int r2
    subst e2
    cases d1 with
    | list ds =>
      obtain ⟨p, xs, rfl, hp, rk⟩ := rq_lst S2 r1
      obtain ⟨v, e1, rv⟩ := rpA_atI rk z3
      exact .inl ⟨p, xs, i, v, rfl, rfl, hp, e1, k v Hf2 H2 S2 (s1.trans s2) (g1.trans s1 g2) rv⟩
    | tuple ds =>
      obtain ⟨p, xs, rfl, hp, rk⟩ := rq_tup S2 r1
      obtain ⟨v, e1, rv⟩ := rpA_atI rk z3
      exact .inr ⟨p, xs, i, v, rfl, rfl, hp, e1, k v Hf2 H2 S2 (s1.trans s2) (g1.trans s1 g2) rv⟩
    | dict es => exact absurd rfl hd
    | none => cases z3
    | bool _ => cases z3
    | int _ => cases z3
    | str _ => cases z3
/-- d.get(k, x) -/
def gGet : PyData → PyData → PyData → Option PyData
  | .dict es, .int k, x => some ((dGet es k).getD x)
  | _, _, _ => none
theorem c_get {cpos apos : Pos} (hu : X.A.units + 64 < cLine) (ha : PQ X a f1) (hb : PQ X b f2) (hc : PF X c f3) (m : M2 X a "get" apos b c cpos) : PF X (.Call (.Attribute a "get" apos) [b, c] [] cpos) (b3 f1 f2 f3 gGet) := by
  refine pe_imp (pe_dget2 (by omega) ha hb hc m) fun σ H Q ⟨B, Hf, env, d, S, z, k⟩ => ?_
  obtain ⟨d1, z1, z⟩ := Option.bind_eq_some_iff.mp z
  obtain ⟨d2, z2, z⟩ := Option.bind_eq_some_iff.mp z
  obtain ⟨d3, z3, z⟩ := Option.bind_eq_some_iff.mp z
  refine ⟨B, Hf, env, d1, S, z1, fun x Hf1 H1 S1 s1 g1 r1 => ?_⟩
  obtain ⟨es, rfl⟩ : ∃ es, d1 = .dict es := by
    cases d1 <;> first | exact ⟨_, rfl⟩ | cases z
  obtain ⟨i, rfl⟩ : ∃ i, d2 = .int i := by
    cases d2 <;> first | exact ⟨_, rfl⟩ | cases z
  cases z
  obtain ⟨p, kvs0, rfl, hp0, _⟩ := rq_dct S1 r1
  refine ⟨p, rfl, .inl ⟨kvs0, hp0⟩, B, Hf1, env, _, S1, z2, fun y Hf2 H2 S2 s2 g2 r2 => ⟨B, Hf2, env, d3, S2, z3, fun u Hf3 H3 S3 s3 g3 r3 => ?_⟩⟩
  have r1 := fwQ.to (H0' := H2) s3 g3 (fwQ.to (H0' := H1) s2 g2 r1)
  have e2 := rq_int r2
  subst e2
  obtain ⟨p', kvs, e, hp, rk⟩ := rq_dct S3 r1
  cases V.ref.inj e
  refine ⟨valV kvs (Sum.inl i), .inl ⟨kvs, Sum.inl i, hp, rfl, rfl⟩, ?_⟩
  refine k _ Hf3 H3 S3 (s1.trans (s2.trans s3)) (g1.trans s1 (g2.trans s2 g3)) ?_
  cases q : dGet es i with
  | none =>
    rw [rpK_none rk q]
    exact r3
  | some d0 =>
    obtain ⟨v, e1, rv⟩ := rpK_get rk q
    rw [e1]
    exact rv
end
end Q7

-- part Qd
set_option Elab.async false
set_option linter.all false
set_option maxRecDepth 100000
/-! Qd: slices, displays, calls of built-ins and of defs. -/
namespace Q7
open PySem PySem.Spec PyProof.Rows L2

/-! ### slices -/
def asI : PyData → Option Int
  | .int i => some i
  | _ => none
def tP (K : PySem.W.Frag) (f : Nv → Option (Option Int)) : TO := fun σ H Q => ∃ B Hf env o, StOk K B Hf env σ H ∧ f env = some o ∧ ∀ Hf' H', StOk K B Hf' env σ H' → Same H H' → Grow Hf Hf' H → Q o H'
def noP : Nv → Option (Option Int) := fun _ => some none
def soP (f : Nv → Option PyData) : Nv → Option (Option Int) := fun env => (f env).bind fun d => (asI d).map some
def cutD (ds : List PyData) (lo hi : Option Int) : List PyData := (ds.drop (HT.sIx ds.length 0 lo)).take (HT.sIx ds.length ds.length hi - HT.sIx ds.length 0 lo)
def slL (f : Nv → Option PyData) (lo hi : Nv → Option (Option Int)) : Nv → Option PyData := fun env => (f env).bind fun d => (lo env).bind fun l => (hi env).bind fun h => match d with
  | .list ds => some (.list (cutD ds l h))
  | _ => none
def slT (f : Nv → Option PyData) (lo hi : Nv → Option (Option Int)) : Nv → Option PyData := fun env => (f env).bind fun d => (lo env).bind fun l => (hi env).bind fun h => match d with
  | .tuple ds => some (.tuple (cutD ds l h))
  | _ => none
section
variable {X : Cx} {e a b c : Expr} {lo hi : Option Expr} {f f1 f2 f3 : Nv → Option PyData} {l h : Nv → Option (Option Int)} {pos p2 : Pos} {K : PySem.W.Frag}
abbrev PSl (X : Cx) (e : Option Expr) (f : Nv → Option (Option Int)) : Prop := PO X e (tP X.K f)
theorem po_imp {e : Option Expr} {t t' : TO} (h : PO X e t) (k : ∀ σ H Q, t' σ H Q → t σ H Q) : PO X e t' := ⟨fun pins s σ H Q I q => h.run pins s σ H Q I (k σ H Q q)⟩
theorem p_no : PSl X none noP := po_imp po_none fun σ H Q ⟨B, Hf, env, o, S, z, k⟩ => by
  cases z
  exact k Hf H S (Same.refl H) .refl
theorem p_so (h : PQ X e f) : PSl X (some e) (soP f) := po_imp (po_some h) fun σ H Q ⟨B, Hf, env, o, S, z, k⟩ => by
  obtain ⟨d, z1, z2⟩ := Option.bind_eq_some_iff.mp z
  obtain ⟨i, z3, rfl⟩ := Option.map_eq_some_iff.mp z2
  have e : d = .int i := by
    cases d <;> first | (cases z3; rfl) | cases z3
  subst e
  exact ⟨B, Hf, env, _, S, z1, fun v Hf' H' S' s g r => ⟨i, rq_int r, k Hf' H' S' s g⟩⟩
theorem rpA_cut {H : Hp} {ds : List PyData} {xs : List V} (r : RpA K H ds xs) (lo hi : Option Int) : RpA K H (cutD ds lo hi) (cutV xs lo hi) := by
  unfold cutD cutV
  rw [r.length]
  exact (r.drop _).take _
theorem c_slL (ha : PQ X a f) (hl : PSl X lo l) (hh : PSl X hi h) : PO' X (.Subscript a (.Slice lo hi none p2) pos) (slL f l h) := pe_imp (pe_slice sl_list ha hl hh) fun σ H Q ⟨B, Hf, env, d, S, z, k⟩ => by
  obtain ⟨d1, z1, z⟩ := Option.bind_eq_some_iff.mp z
  obtain ⟨o1, z2, z⟩ := Option.bind_eq_some_iff.mp z
  obtain ⟨o2, z3, z⟩ := Option.bind_eq_some_iff.mp z
  obtain ⟨ds, rfl⟩ : ∃ ds, d1 = .list ds := by
    cases d1 <;> first | exact ⟨_, rfl⟩ | cases z
  cases z
  refine ⟨B, Hf, env, _, S, z1, fun x Hf1 H1 S1 s1 g1 r1 => ⟨B, Hf1, env, o1, S1, z2, fun Hf2 H2 S2 s2 g2 => ⟨B, Hf2, env, o2, S2, z3, fun Hf3 H3 S3 s3 g3 => ?_⟩⟩⟩
  obtain ⟨p, xs, rfl, hp, rk⟩ := rq_lst S3 (fwQ.to (H0' := H2) s3 g3 (fwQ.to (H0' := H1) s2 g2 r1))
  exact ⟨p, xs, rfl, hp, fun q hq => opw_lst S3 (rpA_cut rk o1 o2) (fun v Hf' H' S' s' g' q => k v Hf' H' S' (s1.trans (s2.trans (s3.trans s'))) (g1.trans s1 (g2.trans s2 (g3.trans s3 g'))) (bkO.to (s1.trans (s2.trans s3)) q)) hq⟩
theorem cut_all {α : Type} {xs : List α} {n a b : Nat} (h : n = xs.length) (ha : a = 0) (hb : b = n) : (xs.drop a).take (b - a) = xs := by
  subst h ha hb
  rw [List.drop_zero, Nat.sub_zero, List.take_length]
theorem c_slT (ha : PQ X a f) (hl : PSl X lo l) (hh : PSl X hi h) : PF X (.Subscript a (.Slice lo hi none p2) pos) (slT f l h) := pe_imp (pe_slice sl_tupA ha hl hh) fun σ H Q ⟨B, Hf, env, d, S, z, k⟩ => by
  obtain ⟨d1, z1, z⟩ := Option.bind_eq_some_iff.mp z
  obtain ⟨o1, z2, z⟩ := Option.bind_eq_some_iff.mp z
  obtain ⟨o2, z3, z⟩ := Option.bind_eq_some_iff.mp z
  obtain ⟨ds, rfl⟩ : ∃ ds, d1 = .tuple ds := by
    cases d1 <;> first | exact ⟨_, rfl⟩ | cases z
  cases z
  refine ⟨B, Hf, env, _, S, z1, fun x Hf1 H1 S1 s1 g1 r1 => ⟨B, Hf1, env, o1, S1, z2, fun Hf2 H2 S2 s2 g2 => ⟨B, Hf2, env, o2, S2, z3, fun Hf3 H3 S3 s3 g3 => ?_⟩⟩⟩
  have r3 := fwQ.to (H0' := H2) s3 g3 (fwQ.to (H0' := H1) s2 g2 r1)
  have fr : Rp X.K Hf3 (.tuple ds) x := r3.elim (fun z => z) fun ⟨_, _, _, z⟩ => z.elim
  obtain ⟨p, xs, rfl, hp, rk⟩ := rq_tup S3 r3
  refine ⟨p, xs, rfl, hp, fun hw => ?_, fun hw q hq => opw_tup S3 (rpA_cut rk o1 o2) (fun v Hf' H' S' s' g' q => k v Hf' H' S' (s1.trans (s2.trans (s3.trans s'))) (g1.trans s1 (g2.trans s2 (g3.trans s3 g'))) q) hq⟩
  refine k _ Hf3 H3 S3 (s1.trans (s2.trans s3)) (g1.trans s1 (g2.trans s2 g3)) ?_
  have e : cutD ds o1 o2 = ds := by
    unfold cutD
    rw [rk.length] at hw
    exact cut_all rfl hw.1 hw.2
  rw [e]
  exact fr
/-- xs[::-1] -/
def aRev : PyData → Option PyData
  | .list ds => some (.list ds.reverse)
  | _ => none
theorem c_rev {k : Nat} {p1 p3 : Pos} (ha : PQ X a f) : PO' X (.Subscript a (.Slice none none (some (.UnaryOp .USub (.Constant (.int 1) k p1) p2)) p3) pos) (u1 f aRev) :=
  Le.pe (t := tRevL X.K _) (le1 (g := aRev) (R1 := RQ X.K) (r := fun x H Q => ∃ a xs, x = .ref a ∧ SqL X.K H a xs ∧ ∀ p, H p = none → Q (.ref p) (upd H p (.lst xs.reverse))) bkO fun B Hf env σ H0 H x d1 d Q S r1 z k => by
    obtain ⟨ds, rfl⟩ : ∃ ds, d1 = .list ds := by
      cases d1 <;> first | exact ⟨_, rfl⟩ | cases z
    cases z
    obtain ⟨p, xs, rfl, hp, rk⟩ := rq_lst S r1
    exact ⟨p, xs, rfl, hp, fun q hq => opw_lst S rk.reverse k hq⟩) (pe_revL ha)

/-! ### lists and tuples added, repeated -/
def aCatL : PyData → PyData → Option PyData
  | .list ds, .list es => if Nat.ble (ds.length + es.length) 100000 then some (.list (ds ++ es)) else none
  | _, _ => none
def aCatT : PyData → PyData → Option PyData
  | .tuple ds, .tuple es => if Nat.ble (ds.length + es.length) 100000 then some (.tuple (ds ++ es)) else none
  | _, _ => none
theorem line5 {n : Nat} (h : Nat.ble n 100000 = true) : n < sizeLine := Nat.lt_of_le_of_lt (Nat.le_of_ble_eq_true h) (by decide)
theorem c_catL (ha : PW' X a f1) (hb : PW' X b f2) : PO' X (.BinOp a .Add b pos) (b2 f1 f2 aCatL) := Le.pe (t := tOp rCat _ _) (le2 (R1 := RW X.K) (R2 := RW X.K) fwW bkO fun B Hf env σ H0 H x y d1 d2 d Q S r1 r2 z k => by
  unfold aCatL at z
  split at z
  · split at z
    · rename_i q
      cases z
      obtain ⟨p1, rfl, _, xs, h1, k1⟩ := r1
      obtain ⟨p2, rfl, _, ys, h2, k2⟩ := r2
      exact ⟨p1, p2, xs, ys, rfl, rfl, h1, h2, by rw [k1.length, k2.length]; exact Nat.le_of_lt (line5 q), fun q hq => opw_lst S (k1.append k2) k hq⟩
    · cases z
  · cases z) (pe_op op_cat ha hb)
theorem rpA_nil_iff {H : Hp} {ds : List PyData} {xs : List V} (r : RpA K H ds xs) : ds = [] ↔ xs = [] := by
  rw [← List.length_eq_zero_iff, ← List.length_eq_zero_iff, r.length]
theorem c_catT (ha : PQ X a f1) (hb : PQ X b f2) : PF X (.BinOp a .Add b pos) (b2 f1 f2 aCatT) := Le.pe (t := tOp (rCatA X.K) _ _) (le2 (R1 := RQ X.K) (R2 := RQ X.K) fwQ bkF fun B Hf env σ H0 H x y d1 d2 d Q S r1 r2 z k => by
  unfold aCatT at z
  split at z
  · split at z
    · rename_i q
      cases z
      have fr1 : Rp X.K Hf _ x := r1.elim (fun z => z) fun ⟨_, _, _, z⟩ => z.elim
      have fr2 : Rp X.K Hf _ y := r2.elim (fun z => z) fun ⟨_, _, _, z⟩ => z.elim
      obtain ⟨p1, xs, rfl, h1, k1⟩ := rq_tup S r1
      obtain ⟨p2, ys, rfl, h2, k2⟩ := rq_tup S r2
      refine ⟨p1, p2, xs, ys, rfl, rfl, h1, h2, by rw [k1.length, k2.length]; exact Nat.le_of_lt (line5 q), fun e => ?_, fun _ e => ?_, fun _ _ q hq => opw_tup S (k1.append k2) k hq⟩
      · have e := (rpA_nil_iff k1).mpr e
        subst e
        exact opw_fr S fr2 k
      · have e := (rpA_nil_iff k2).mpr e
        subst e
        rw [List.append_nil] at k
        exact opw_fr S fr1 k
    · cases z
  · cases z) (pe_op op_catA ha hb)
/-- [x] * n -/
def aRep : PyData → PyData → Option PyData
  | .list [d], .int n => if decide (n ≤ 100000) && decide (-100000 ≤ n) then some (.list (List.replicate n.toNat d)) else none
  | _, _ => none
theorem rep_flat {α : Type} (x : α) : ∀ n : Nat, (List.replicate n [x]).flatten = List.replicate n x
  | 0 => rfl
  | n + 1 => by rw [List.replicate_succ, List.flatten_cons, rep_flat x n]; rfl
theorem c_rep (ha : PW' X a f1) (hb : PQ X b f2) : PO' X (.BinOp a .Mult b pos) (b2 f1 f2 aRep) := Le.pe (t := tOp rRep _ _) (le2 (R1 := RW X.K) (R2 := RQ X.K) fwW bkO fun B Hf env σ H0 H x y d1 d2 d Q S r1 r2 z k => by
  unfold aRep at z
  split at z
  · split at z
    · rename_i d0 n q
      cases z
      obtain ⟨q1, q2⟩ := Bool.and_eq_true_iff.mp q
      have q1 := of_decide_eq_true q1
      have q2 := of_decide_eq_true q2
      obtain ⟨p1, rfl, _, xs, h1, k1⟩ := r1
      have e2 := rq_int r2
      subst e2
      obtain ⟨x0, ys, rfl, k0, k1⟩ := k1
      cases (show ys = [] from k1)
      refine ⟨p1, n, [x0], rfl, rfl, h1, by omega, by omega, ?_, fun q hq => ?_⟩
      · rw [show ([x0] : List V).length = 1 from rfl, Nat.one_mul]
        exact Nat.le_trans (show n.toNat ≤ 100000 by omega) (by decide)
      · rw [rep_flat]
        exact opw_lst S (RpA.rep d0 x0 k0 _) k hq
    · cases z
  · cases z) (pe_op op_rep ha hb)

/-! ### argument lists, displays -/
def tA (K : PySem.W.Frag) (f : Nv → Option (List PyData)) : TA := fun σ H Q => ∃ B Hf env ds, StOk K B Hf env σ H ∧ f env = some ds ∧ ∀ vs Hf' H', StOk K B Hf' env σ H' → Same H H' → Grow Hf Hf' H → RpA K Hf' ds vs → Q vs H'
abbrev PAf (X : Cx) (es : List Expr) (f : Nv → Option (List PyData)) : Prop := PA X es (tA X.K f)
theorem pa_imp {es : List Expr} {t t' : TA} (h : PA X es t) (k : ∀ σ H Q, t' σ H Q → t σ H Q) : PA X es t' := ⟨fun pos pins s σ H Q I q => h.run pos pins s σ H Q I (k σ H Q q)⟩
def aNil : Nv → Option (List PyData) := fun _ => some []
def aCons (f : Nv → Option PyData) (g : Nv → Option (List PyData)) : Nv → Option (List PyData) := fun env => (f env).bind fun d => (g env).bind fun ds => some (d :: ds)
variable {es : List Expr} {fs : Nv → Option (List PyData)}
theorem a_nil : PAf X [] aNil := pa_imp pa_nil fun σ H Q ⟨B, Hf, env, ds, S, z, k⟩ => by
  cases z
  exact k [] Hf H S (Same.refl H) .refl rfl
theorem a_cons (ha : PF X e f) (hr : PAf X es fs) (hs : starEach (e :: es) X.env = (false, eval e X.env) :: starEach es X.env := by rfl) : PAf X (e :: es) (aCons f fs) := pa_imp (pa_cons ha hr hs) fun σ H Q ⟨B, Hf, env, ds, S, z, k⟩ => by
  obtain ⟨d, z1, z2⟩ := Option.bind_eq_some_iff.mp z
  obtain ⟨dr, z3, z4⟩ := Option.bind_eq_some_iff.mp z2
  cases z4
  exact ⟨B, Hf, env, d, S, z1, fun x Hf1 H1 S1 s1 g1 r1 => ⟨B, Hf1, env, dr, S1, z3, fun vs Hf2 H2 S2 s2 g2 r2 => k _ Hf2 H2 S2 (s1.trans s2) (g1.trans s1 g2) (.cons (Rp.mono (g2.same) _ _ r1) r2)⟩⟩
def fTup (fs : Nv → Option (List PyData)) : Nv → Option PyData := fun env => (fs env).bind fun ds => if Nat.ble ds.length 64 then some (.tuple ds) else none
def fLst (fs : Nv → Option (List PyData)) : Nv → Option PyData := fun env => (fs env).bind fun ds => if Nat.ble ds.length 64 then some (.list ds) else none
theorem line64 {n : Nat} (h : Nat.ble n 64 = true) : n ≤ sizeLine := Nat.le_trans (Nat.le_of_ble_eq_true h) (by decide)
theorem c_tup {x1 : Nat} (h : PAf X es fs) : PF X (.Tuple es x1 pos) (fTup fs) := pe_imp (pe_tup h) fun σ H Q ⟨B, Hf, env, d, S, z, k⟩ => by
  obtain ⟨ds, z1, z2⟩ := Option.bind_eq_some_iff.mp z
  split at z2
  · rename_i q
    cases z2
    refine ⟨B, Hf, env, ds, S, z1, fun vs Hf1 H1 S1 s1 g1 r1 => ⟨by rw [r1.length]; exact line64 q, fun p hp => opw_tup S1 r1 (fun v Hf' H' S' s' g' q => k v Hf' H' S' (s1.trans s') (g1.trans s1 g') q) hp⟩⟩
  · cases z2
theorem c_lst (h : PAf X es fs) : PO' X (.List es pos) (fLst fs) := pe_imp (pe_lst h) fun σ H Q ⟨B, Hf, env, d, S, z, k⟩ => by
  obtain ⟨ds, z1, z2⟩ := Option.bind_eq_some_iff.mp z
  split at z2
  · rename_i q
    cases z2
    refine ⟨B, Hf, env, ds, S, z1, fun vs Hf1 H1 S1 s1 g1 r1 => ⟨by rw [r1.length]; exact line64 q, fun p hp => opw_lst S1 r1 (fun v Hf' H' S' s' g' q => k v Hf' H' S' (s1.trans s') (g1.trans s1 g') (bkO.to s1 q)) hp⟩⟩
  · cases z2
/-- {} -/
theorem c_dct0 : PO' X (.Dict [] [] pos) (kD (.dict [])) := pe_imp pe_dnewK fun σ H Q ⟨B, Hf, env, d, S, z, k⟩ => by
  cases z
  exact fun p hp => opw_dct S (show RpK X.K Hf [] [] from rfl) k hp
/-- {k: v} -/
def fDct (f1 f2 : Nv → Option PyData) : Nv → Option PyData := fun env => (f1 env).bind fun k => (f2 env).bind fun d => match k with
  | .int i => some (.dict [(.int i, d)])
  | _ => none
theorem c_dct1 (hk : PF X a f1) (hv : PF X b f2) : PO' X (.Dict [some a] [b] pos) (fDct f1 f2) := pe_imp (pe_disp (pps_cons hk hv pps_nil) (by rfl) (by rfl) (fun z => by cases z) (by show 1 ≤ 15; decide)) fun σ H Q ⟨B, Hf, env, d, S, z, k⟩ => by
  obtain ⟨d1, z1, z⟩ := Option.bind_eq_some_iff.mp z
  obtain ⟨d2, z2, z⟩ := Option.bind_eq_some_iff.mp z
  obtain ⟨i, rfl⟩ : ∃ i, d1 = .int i := by
    cases d1 <;> first | exact ⟨_, rfl⟩ | cases z
  cases z
  intro p hp
  have S0 := S.new (o := .dK []) hp
  have n0 := same_new (o := .dK []) hp
  refine ⟨B, Hf, env, _, S0, z1, fun x Hf1 H1 S1 s1 g1 r1 => ⟨B, Hf1, env, d2, S1, z2, fun y Hf2 H2 S2 s2 g2 r2 => ?_⟩⟩
  cases (show x = V.int i from r1)
  have hp2 : H2 p = some (.dK []) := s2 p _ (s1 p _ upd_same)
  have gg : Grow Hf Hf2 H := ⟨g1.same.trans g2.same, fun a f n => g2.new a (g1.new a f (same_ne n0 n)) (same_ne s1 (same_ne n0 n))⟩
  have f2 : Hf2 p = none := g2.new p (g1.new p (S.hfree hp) (by rw [upd_same]; exact fun z => nomatch z)) (by
    intro z
    rw [s1 p _ upd_same] at z
    cases z)
  refine ⟨hp2, [(Sum.inl i, y)], rfl, (by show 1 ≤ 15; decide), ?_⟩
  refine k (.ref p) Hf2 _ ⟨sub_updR S2.sub f2, fun a o e => ?_, S2.len, fun j c ec => ?_, S2.apart⟩ (fun a o e => ?_) gg ⟨p, rfl, hp, f2, _, upd_same, ⟨i, y, [], rfl, rfl, r2, rfl⟩⟩
  · have ne : a ≠ p := ne_of_none e (S.bfree hp)
    rw [upd_ne ne]
    exact S2.base a o e
  · have hc := S2.cell j c ec
    have h0 := S.cell j c ec
    cases c with
    | un => trivial
    | raw v => exact hc
    | fr d => exact hc
    | ow d =>
      obtain ⟨q, e1, b, f, r⟩ := hc
      obtain ⟨q0, e0, _, _, r0⟩ := h0
      have eq : q0 = q := V.ref.inj (Option.some.inj (Option.some.inj (e0.symm.trans e1)))
      subst eq
      have ne : q0 ≠ p := fun z => r0.there (z ▸ hp)
      exact ⟨q0, e1, b, f, r.mono (Same.refl _) (upd_ne ne)⟩
  · have ne : a ≠ p := ne_of_none e hp
    rw [upd_ne ne]
    exact s2 a o (s1 a o (n0 a o e))
end
end Q7

-- part Qe
set_option Elab.async false
set_option linter.all false
set_option maxRecDepth 100000
/-! Qe: calls of built-ins and of defs. -/
namespace Q7
open PySem PySem.Spec PyProof.Rows L2

section
variable {X : Cx} {e a b c : Expr} {f f1 f2 f3 : Nv → Option PyData} {p pos : Pos} {x : Str} {nm T : String} {R R1 R2 R3 : Md}
/-- a built-in function of one argument -/
theorem c_B1 {r : List V → Hp → VK → Prop} {g : PyData → Option PyData} (mo : Bk R) (hc : CallR X (.builtin nm) r) (hg : Gl X x) (hm : X.mg x = none) (hv : bootBuiltins x = some (.builtin nm)) (ha : PE X a (tX X.K R1 f))
    (hr : ∀ (B Hf : Hp) (env : Nv) (σ : L2.St) (H0 H : Hp) (x : V) (d1 d : PyData) (Q : VK), StOk X.K B Hf env σ H → R1 H0 Hf H d1 x → g d1 = some d → Opw X.K R d Q B Hf env σ H → r [x] H Q)
    (hn : x ≠ "__name__" := by decide) (hdb : (x == ("__debug__" : Str)) = false := by decide) (hs : starEach [a] X.env = (false, eval a X.env) :: starEach [] X.env := by rfl) (hpl : (backTo pos (starEach [] X.env)).any (·.1) = false := by rfl) :
    PE X (.Call (.Name x p) [a] [] pos) (tX X.K R (u1 f g)) := Le.pe (t := tCB r (tCons _ tNil)) (le1 (r := fun x H Q => r [x] H Q) mo hr) (pe_callB hc hg hm hv (pa_cons ha pa_nil hs) hn hdb hs hpl)
theorem c_T1 {r : List V → Hp → VK → Prop} {g : PyData → Option PyData} (mo : Bk R) (hc : CallR X (.type T) r) (hg : Gl X x) (hm : X.mg x = none) (hv : bootBuiltins x = some (.type T)) (ha : PE X a (tX X.K R1 f))
    (hr : ∀ (B Hf : Hp) (env : Nv) (σ : L2.St) (H0 H : Hp) (x : V) (d1 d : PyData) (Q : VK), StOk X.K B Hf env σ H → R1 H0 Hf H d1 x → g d1 = some d → Opw X.K R d Q B Hf env σ H → r [x] H Q)
    (hn : x ≠ "__name__" := by decide) (hdb : (x == ("__debug__" : Str)) = false := by decide) (hs : starEach [a] X.env = (false, eval a X.env) :: starEach [] X.env := by rfl) (hpl : (backTo pos (starEach [] X.env)).any (·.1) = false := by rfl) :
    PE X (.Call (.Name x p) [a] [] pos) (tX X.K R (u1 f g)) := Le.pe (t := tCB r (tCons _ tNil)) (le1 (r := fun x H Q => r [x] H Q) mo hr) (pe_callTy hc hg hm hv (pa_cons ha pa_nil hs) hn hdb hs hpl)
theorem c_B2 {r : List V → Hp → VK → Prop} {g : PyData → PyData → Option PyData} (w1 : Fw R1) (mo : Bk R) (hc : CallR X (.builtin nm) r) (hg : Gl X x) (hm : X.mg x = none) (hv : bootBuiltins x = some (.builtin nm)) (ha : PE X a (tX X.K R1 f1)) (hb : PE X b (tX X.K R2 f2))
    (hr : ∀ (B Hf : Hp) (env : Nv) (σ : L2.St) (H0 H : Hp) (x y : V) (d1 d2 d : PyData) (Q : VK), StOk X.K B Hf env σ H → R1 H0 Hf H d1 x → R2 H0 Hf H d2 y → g d1 d2 = some d → Opw X.K R d Q B Hf env σ H → r [x, y] H Q)
    (hn : x ≠ "__name__" := by decide) (hdb : (x == ("__debug__" : Str)) = false := by decide) (hs : starEach [a, b] X.env = (false, eval a X.env) :: starEach [b] X.env := by rfl) (hs2 : starEach [b] X.env = (false, eval b X.env) :: starEach [] X.env := by rfl)
    (hpl : (backTo pos (starEach [b] X.env)).any (·.1) = false := by rfl) :
    PE X (.Call (.Name x p) [a, b] [] pos) (tX X.K R (b2 f1 f2 g)) := Le.pe (t := tCB r (tCons _ (tCons _ tNil))) (le2 (r := fun x y H Q => r [x, y] H Q) w1 mo hr) (pe_callB hc hg hm hv (pa_cons ha (pa_cons hb pa_nil hs2) hs) hn hdb hs hpl)
theorem c_B3 {r : List V → Hp → VK → Prop} {g : PyData → PyData → PyData → Option PyData} (w1 : Fw R1) (w2 : Fw R2) (mo : Bk R) (hc : CallR X (.builtin nm) r) (hg : Gl X x) (hm : X.mg x = none) (hv : bootBuiltins x = some (.builtin nm)) (ha : PE X a (tX X.K R1 f1)) (hb : PE X b (tX X.K R2 f2)) (hcc : PE X c (tX X.K R3 f3))
    (hr : ∀ (B Hf : Hp) (env : Nv) (σ : L2.St) (H0 H : Hp) (x y u : V) (d1 d2 d3 d : PyData) (Q : VK), StOk X.K B Hf env σ H → R1 H0 Hf H d1 x → R2 H0 Hf H d2 y → R3 H0 Hf H d3 u → g d1 d2 d3 = some d → Opw X.K R d Q B Hf env σ H → r [x, y, u] H Q)
    (hn : x ≠ "__name__" := by decide) (hdb : (x == ("__debug__" : Str)) = false := by decide) (hs : starEach [a, b, c] X.env = (false, eval a X.env) :: starEach [b, c] X.env := by rfl) (hs2 : starEach [b, c] X.env = (false, eval b X.env) :: starEach [c] X.env := by rfl)
    (hs3 : starEach [c] X.env = (false, eval c X.env) :: starEach [] X.env := by rfl) (hpl : (backTo pos (starEach [b, c] X.env)).any (·.1) = false := by rfl) :
    PE X (.Call (.Name x p) [a, b, c] [] pos) (tX X.K R (b3 f1 f2 f3 g)) := Le.pe (t := tCB r (tCons _ (tCons _ (tCons _ tNil)))) (le3 (r := fun x y u H Q => r [x, y, u] H Q) w1 w2 mo hr) (pe_callB hc hg hm hv (pa_cons ha (pa_cons hb (pa_cons hcc pa_nil hs3) hs2) hs) hn hdb hs hpl)

/-! ### len, abs, int, sum, min, max, any, all, list, tuple -/
def gLen : PyData → Option PyData
  | .list ds => some (.int ds.length)
  | .tuple ds => some (.int ds.length)
  | _ => none
theorem c_len (hg : Gl X "len") (hm : X.mg "len" = none) (ha : PQ X a f) (hs : starEach [a] X.env = (false, eval a X.env) :: starEach [] X.env := by rfl) (hpl : (backTo pos (starEach [] X.env)).any (·.1) = false := by rfl) : PF X (.Call (.Name "len" p) [a] [] pos) (u1 f gLen) :=
  c_B1 bkF call_len_seq hg hm PySem.boot_len ha (fun B Hf env σ H0 H x d1 d Q S r1 z k => by
    cases d1 with
    | list ds =>
      cases z
      obtain ⟨q, xs, rfl, hq, rk⟩ := rq_lst S r1
      exact ⟨q, xs, rfl, .inl hq, by rw [rk.length]; exact opw_int S k⟩
    | tuple ds =>
      cases z
      obtain ⟨q, xs, rfl, hq, rk⟩ := rq_tup S r1
      exact ⟨q, xs, rfl, .inr hq, by rw [rk.length]; exact opw_int S k⟩
    | none => cases z
    | bool _ => cases z
    | int _ => cases z
    | str _ => cases z
    | dict _ => cases z) (hs := hs) (hpl := hpl)
def gAbs : PyData → Option PyData
  | .int i => some (.int (if i < 0 then -i else i))
  | _ => none
theorem c_abs (hg : Gl X "abs") (hm : X.mg "abs" = none) (ha : PQ X a f) (hs : starEach [a] X.env = (false, eval a X.env) :: starEach [] X.env := by rfl) (hpl : (backTo pos (starEach [] X.env)).any (·.1) = false := by rfl) : PF X (.Call (.Name "abs" p) [a] [] pos) (u1 f gAbs) :=
  c_B1 bkF call_abs hg hm (by decide +kernel) ha (fun B Hf env σ H0 H x d1 d Q S r1 z k => by
    obtain ⟨i, rfl⟩ : ∃ i, d1 = .int i := by
      cases d1 <;> first | exact ⟨_, rfl⟩ | cases z
    cases z
    exact ⟨i, by rw [rq_int r1], opw_int S k⟩) (hs := hs) (hpl := hpl)
def gInt : PyData → Option PyData
  | .int i => some (.int i)
  | _ => none
theorem c_int1 (hg : Gl X "int") (hm : X.mg "int" = none) (ha : PQ X a f) (hs : starEach [a] X.env = (false, eval a X.env) :: starEach [] X.env := by rfl) (hpl : (backTo pos (starEach [] X.env)).any (·.1) = false := by rfl) : PF X (.Call (.Name "int" p) [a] [] pos) (u1 f gInt) :=
  c_T1 bkF call_int1 hg hm (by decide +kernel) ha (fun B Hf env σ H0 H x d1 d Q S r1 z k => by
    obtain ⟨i, rfl⟩ : ∃ i, d1 = .int i := by
      cases d1 <;> first | exact ⟨_, rfl⟩ | cases z
    cases z
    exact .inl ⟨i, by rw [rq_int r1], opw_int S k⟩) (hs := hs) (hpl := hpl)
/-- all ints, all bools -/
def ints? : List PyData → Option (List Int)
  | [] => some []
  | .int i :: r => (ints? r).map (i :: ·)
  | _ => none
def bools? : List PyData → Option (List Bool)
  | [] => some []
  | .bool i :: r => (bools? r).map (i :: ·)
  | _ => none
theorem ints?_some : ∀ {ds : List PyData} {ns : List Int}, ints? ds = some ns → ds = ns.map PyData.int
  | [], _, h => by
    cases h
    rfl
  | d :: ds, ns, h => by
    cases d <;> first | (cases h; done) | skip
    rename_i i
    obtain ⟨ms, h1, rfl⟩ := Option.map_eq_some_iff.mp (show (ints? ds).map (i :: ·) = some ns from h)
    rw [ints?_some h1]
    rfl
theorem bools?_some : ∀ {ds : List PyData} {ns : List Bool}, bools? ds = some ns → ds = ns.map PyData.bool
  | [], _, h => by
    cases h
    rfl
  | d :: ds, ns, h => by
    cases d <;> first | (cases h; done) | skip
    rename_i i
    obtain ⟨ms, h1, rfl⟩ := Option.map_eq_some_iff.mp (show (bools? ds).map (i :: ·) = some ns from h)
    rw [bools?_some h1]
    rfl
def onIs (g : List Int → Option PyData) : PyData → Option PyData
  | .list ds => (ints? ds).bind g
  | _ => none
def onBs (g : List Bool → Option PyData) : PyData → Option PyData
  | .list ds => (bools? ds).bind g
  | _ => none
theorem onIs_some {g : List Int → Option PyData} {d1 d : PyData} (h : onIs g d1 = some d) : ∃ ns, d1 = .list (ns.map PyData.int) ∧ g ns = some d := by
  cases d1 <;> first | (cases h; done) | skip
  rename_i ds
  obtain ⟨ns, h1, h2⟩ := Option.bind_eq_some_iff.mp (show (ints? ds).bind g = some d from h)
  exact ⟨ns, by rw [ints?_some h1], h2⟩
theorem onBs_some {g : List Bool → Option PyData} {d1 d : PyData} (h : onBs g d1 = some d) : ∃ ns, d1 = .list (ns.map PyData.bool) ∧ g ns = some d := by
  cases d1 <;> first | (cases h; done) | skip
  rename_i ds
  obtain ⟨ns, h1, h2⟩ := Option.bind_eq_some_iff.mp (show (bools? ds).bind g = some d from h)
  exact ⟨ns, by rw [bools?_some h1], h2⟩
def sumI : List Int → Int
  | [] => 0
  | i :: r => i + sumI r
theorem sumI_eq : ∀ ns : List Int, sumI ns = ns.sum
  | [] => rfl
  | i :: r => by rw [sumI, sumI_eq r, List.sum_cons]
def gSum : PyData → Option PyData := onIs fun ns => some (.int (sumI ns))
theorem c_sum (hc : X.calm = true) (hg : Gl X "sum") (hm : X.mg "sum" = none) (ha : PQ X a f) (hs : starEach [a] X.env = (false, eval a X.env) :: starEach [] X.env := by rfl) (hpl : (backTo pos (starEach [] X.env)).any (·.1) = false := by rfl) : PF X (.Call (.Name "sum" p) [a] [] pos) (u1 f gSum) :=
  c_B1 bkF (cr_sum hc) hg hm (by decide +kernel) ha (fun B Hf env σ H0 H x d1 d Q S r1 z k => by
    obtain ⟨ns, rfl, z2⟩ := onIs_some (g := fun ns => some (.int (sumI ns))) z
    cases z2
    obtain ⟨q, xs, rfl, hq, rk⟩ := rq_lst S r1
    rw [rk.ints] at hq
    exact ⟨q, ns, rfl, hq, by rw [← sumI_eq]; exact opw_int S k⟩) (hs := hs) (hpl := hpl)
def minI : Int → List Int → Int
  | m, [] => m
  | m, i :: r => minI (if decide (i < m) then i else m) r
theorem minI_spec : ∀ (r : List Int) (m : Int), (minI m r = m ∨ minI m r ∈ r) ∧ minI m r ≤ m ∧ ∀ y ∈ r, minI m r ≤ y
  | [], m => ⟨.inl rfl, Int.le_refl _, fun y h => by cases h⟩
  | i :: r, m => by
    obtain ⟨h1, h2, h3⟩ := minI_spec r (if decide (i < m) then i else m)
    have e : minI m (i :: r) = minI (if decide (i < m) then i else m) r := rfl
    rw [e]
    generalize minI (if decide (i < m) then i else m) r = z at h1 h2 h3 ⊢
    by_cases h : i < m
    · rw [if_pos (decide_eq_true h)] at h1 h2
      refine ⟨.inr (h1.elim (fun w => w ▸ List.mem_cons_self) (List.mem_cons_of_mem _)), by omega, fun y hy => ?_⟩
      rcases List.mem_cons.mp hy with rfl | hy
      · exact h2
      · exact h3 y hy
    · rw [if_neg (by rw [decide_eq_false h]; exact Bool.false_ne_true)] at h1 h2
      refine ⟨h1.elim .inl fun w => .inr (List.mem_cons_of_mem _ w), h2, fun y hy => ?_⟩
      rcases List.mem_cons.mp hy with rfl | hy
      · omega
      · exact h3 y hy
def minL : List Int → Option PyData
  | [] => none
  | i :: r => some (.int (minI i r))
def gMin : PyData → Option PyData := onIs minL
theorem c_min (hc : X.calm = true) (hg : Gl X "min") (hm : X.mg "min" = none) (ha : PQ X a f) (hs : starEach [a] X.env = (false, eval a X.env) :: starEach [] X.env := by rfl) (hpl : (backTo pos (starEach [] X.env)).any (·.1) = false := by rfl) : PF X (.Call (.Name "min" p) [a] [] pos) (u1 f gMin) :=
  c_B1 bkF (cr_min hc) hg hm (by decide +kernel) ha (fun B Hf env σ H0 H x d1 d Q S r1 z k => by
    obtain ⟨ns, rfl, z2⟩ := onIs_some (g := minL) z
    obtain ⟨q, xs, rfl, hq, rk⟩ := rq_lst S r1
    rw [rk.ints] at hq
    cases ns with
    | nil => cases z2
    | cons i r =>
      cases z2
      obtain ⟨h1, h2, h3⟩ := minI_spec r i
      refine ⟨q, i :: r, rfl, hq, Nat.succ_pos _, fun m hm1 hm2 => ?_⟩
      have e : m = minI i r := by
        have a1 := hm2 (minI i r) (h1.elim (fun w => w.symm ▸ List.mem_cons_self) (List.mem_cons_of_mem _))
        have a2 : minI i r ≤ m := by
          rcases List.mem_cons.mp hm1 with rfl | w
          · exact h2
          · exact h3 m w
        omega
      rw [e]
      exact opw_int S k) (hs := hs) (hpl := hpl)
def gMax2 : PyData → PyData → Option PyData := onI fun i j => some (.int (if decide (j > i) then j else i))
theorem c_max2 (hc : X.calm = true) (hg : Gl X "max") (hm : X.mg "max" = none) (ha : PQ X a f1) (hb : PQ X b f2) (hs : starEach [a, b] X.env = (false, eval a X.env) :: starEach [b] X.env := by rfl) (hs2 : starEach [b] X.env = (false, eval b X.env) :: starEach [] X.env := by rfl)
    (hpl : (backTo pos (starEach [b] X.env)).any (·.1) = false := by rfl) : PF X (.Call (.Name "max" p) [a, b] [] pos) (b2 f1 f2 gMax2) :=
  c_B2 fwQ bkF (call_max2 hc) hg hm (by decide +kernel) ha hb (fun B Hf env σ H0 H x y d1 d2 d Q S r1 r2 z k => by
    obtain ⟨i, j, rfl, rfl, z⟩ := onI_some z
    cases z
    refine ⟨i, j, by rw [rq_int r1, rq_int r2], ?_⟩
    have q := opw_int S k
    by_cases h : j > i
    · rw [if_pos h]
      rw [if_pos (decide_eq_true h)] at q
      exact q
    · rw [if_neg h]
      rw [if_neg (by rw [decide_eq_false h]; exact Bool.false_ne_true)] at q
      exact q) (hs := hs) (hs2 := hs2) (hpl := hpl)
/-- max(a, b, c) -/
theorem call_max3 (hc : X.calm = true) : CallR X (.builtin "max") (fun xs H Q => ∃ i j l : Int, xs = [.int i, .int j, .int l] ∧ Q (.int (if j > i then (if l > j then l else j) else (if l > i then l else i))) H) := by
  intro pins s σ H xs us Q I r h
  obtain ⟨i, j, l, rfl, q⟩ := h
  cases r with
  | cons r1 r =>
    cases r with
    | cons r2 r =>
      cases r with
      | cons r3 r =>
        cases r
        obtain ⟨t1, rfl⟩ := r1
        obtain ⟨t2, rfl⟩ := r2
        obtain ⟨t3, rfl⟩ := r3
        refine PySem.max_three_ints (I.ok.hd hc) fun h' tk kp => ?_
        have I2 : Inv X pins σ H { s with heap := h', toks := tk } := I.kept kp
        by_cases h1 : j > i
        · rw [if_pos h1] at q ⊢
          by_cases h2 : l > j
          · rw [if_pos h2] at q ⊢
            exact ⟨.int _, H, I2, ⟨_, rfl⟩, q⟩
          · rw [if_neg h2] at q ⊢
            exact ⟨.int _, H, I2, ⟨_, rfl⟩, q⟩
        · rw [if_neg h1] at q ⊢
          by_cases h2 : l > i
          · rw [if_pos h2] at q ⊢
            exact ⟨.int _, H, I2, ⟨_, rfl⟩, q⟩
          · rw [if_neg h2] at q ⊢
            exact ⟨.int _, H, I2, ⟨_, rfl⟩, q⟩
def gMax3 : PyData → PyData → PyData → Option PyData
  | .int i, .int j, .int l => some (.int (if j > i then (if l > j then l else j) else (if l > i then l else i)))
  | _, _, _ => none
theorem c_max3 (hc : X.calm = true) (hg : Gl X "max") (hm : X.mg "max" = none) (ha : PQ X a f1) (hb : PQ X b f2) (hcc : PQ X c f3) (hs : starEach [a, b, c] X.env = (false, eval a X.env) :: starEach [b, c] X.env := by rfl) (hs2 : starEach [b, c] X.env = (false, eval b X.env) :: starEach [c] X.env := by rfl)
    (hs3 : starEach [c] X.env = (false, eval c X.env) :: starEach [] X.env := by rfl) (hpl : (backTo pos (starEach [b, c] X.env)).any (·.1) = false := by rfl) : PF X (.Call (.Name "max" p) [a, b, c] [] pos) (b3 f1 f2 f3 gMax3) :=
  c_B3 fwQ fwQ bkF (call_max3 hc) hg hm (by decide +kernel) ha hb hcc (fun B Hf env σ H0 H x y u d1 d2 d3 d Q S r1 r2 r3 z k => by
    obtain ⟨i, rfl⟩ : ∃ i, d1 = .int i := by
      cases d1 <;> first | exact ⟨_, rfl⟩ | cases z
    obtain ⟨j, rfl⟩ : ∃ i, d2 = .int i := by
      cases d2 <;> first | exact ⟨_, rfl⟩ | cases z
    obtain ⟨l, rfl⟩ : ∃ i, d3 = .int i := by
      cases d3 <;> first | exact ⟨_, rfl⟩ | cases z
    cases z
    exact ⟨i, j, l, by rw [rq_int r1, rq_int r2, rq_int r3], opw_int S k⟩) (hs := hs) (hs2 := hs2) (hs3 := hs3) (hpl := hpl)
def gAny : PyData → Option PyData := onBs fun bs => some (.bool (bs.any id))
def gAll : PyData → Option PyData := onBs fun bs => some (.bool (bs.all id))
theorem c_any (hc : X.calm = true) (hg : Gl X "any") (hm : X.mg "any" = none) (ha : PQ X a f) (hs : starEach [a] X.env = (false, eval a X.env) :: starEach [] X.env := by rfl) (hpl : (backTo pos (starEach [] X.env)).any (·.1) = false := by rfl) : PF X (.Call (.Name "any" p) [a] [] pos) (u1 f gAny) :=
  c_B1 bkF (cr_any hc) hg hm (by decide +kernel) ha (fun B Hf env σ H0 H x d1 d Q S r1 z k => by
    obtain ⟨ns, rfl, z2⟩ := onBs_some (g := fun bs => some (.bool (bs.any id))) z
    cases z2
    obtain ⟨q, xs, rfl, hq, rk⟩ := rq_lst S r1
    rw [rk.bools] at hq
    exact ⟨q, ns, rfl, hq, opw_bl S k⟩) (hs := hs) (hpl := hpl)
theorem c_all (hc : X.calm = true) (hg : Gl X "all") (hm : X.mg "all" = none) (ha : PQ X a f) (hs : starEach [a] X.env = (false, eval a X.env) :: starEach [] X.env := by rfl) (hpl : (backTo pos (starEach [] X.env)).any (·.1) = false := by rfl) : PF X (.Call (.Name "all" p) [a] [] pos) (u1 f gAll) :=
  c_B1 bkF (cr_all hc) hg hm (by decide +kernel) ha (fun B Hf env σ H0 H x d1 d Q S r1 z k => by
    obtain ⟨ns, rfl, z2⟩ := onBs_some (g := fun bs => some (.bool (bs.all id))) z
    cases z2
    obtain ⟨q, xs, rfl, hq, rk⟩ := rq_lst S r1
    rw [rk.bools] at hq
    exact ⟨q, ns, rfl, hq, opw_bl S k⟩) (hs := hs) (hpl := hpl)
def gTupl : PyData → Option PyData
  | .list ds => some (.tuple ds)
  | _ => none
theorem c_tuple (hg : Gl X "tuple") (hm : X.mg "tuple" = none) (ha : PQ X a f) (hs : starEach [a] X.env = (false, eval a X.env) :: starEach [] X.env := by rfl) (hpl : (backTo pos (starEach [] X.env)).any (·.1) = false := by rfl) : PF X (.Call (.Name "tuple" p) [a] [] pos) (u1 f gTupl) :=
  c_T1 bkF call_tuple_of hg hm (by decide +kernel) ha (fun B Hf env σ H0 H x d1 d Q S r1 z k => by
    obtain ⟨ds, rfl⟩ : ∃ i, d1 = .list i := by
      cases d1 <;> first | exact ⟨_, rfl⟩ | cases z
    cases z
    obtain ⟨q, xs, rfl, hq, rk⟩ := rq_lst S r1
    exact ⟨q, xs, rfl, .inl ⟨hq, fun l hl => opw_tup S rk k hl⟩⟩) (hs := hs) (hpl := hpl)
/-- list(x) of a list, of a dict -/
def keysD : List (PyData × PyData) → List PyData
  | [] => []
  | (k, _) :: r => k :: keysD r
def gList : PyData → Option PyData
  | .list ds => some (.list ds)
  | .tuple ds => some (.list ds)
  | .dict es => some (.list (keysD es))
  | _ => none
theorem rpK_keys {K : PySem.W.Frag} {H : Hp} : ∀ {es : List (PyData × PyData)} {kvs : List (Key × V)}, RpK K H es kvs → RpA K H (keysD es) (kvs.map fun kv => kV kv.1)
  | [], _, h => by
    rw [show _ = ([] : List (Key × V)) from h]
    exact rfl
  | (j, d0) :: es, _, ⟨i, x, r, e1, e2, h, q⟩ => by
    subst e1 e2
    exact .cons (show Rp K H (.int i) (.int i) from rfl) (rpK_keys q)
/-- list(d), d may be held by a walk -/
def rLstD : List V → Hp → VK → Prop := fun xs H Q => ∃ p kvs, xs = [.ref p] ∧ Rd H p (.dK kvs) ∧ ∀ q, H q = none → Q (.ref q) (upd H q (.lst (kvs.map fun kv => kV kv.1)))
theorem cr_lstD (hc : X.calm = true) : CallR X (.type "list") rLstD := fun pins s σ H xs us Q I r h => by
  obtain ⟨p, kvs, rfl, hk, q⟩ := h
  obtain ⟨u, rfl, ru⟩ := vals1 r
  cases (show u = Value.ref p from ru)
  obtain ⟨lim, low, vs, rk, hd⟩ := dk_rd I.hok hk
  obtain ⟨ep, hat⟩ := hd.dictAt
  have len : kvs.length = vs.length := rk.length
  refine PySem.W.kdl_call (PySem.W.kdl_dict (knd := mixKind X.prog X.w) (kvs := vs) (ep := ep) low) (I.ok.hd hc) hat (Nat.le_trans (Nat.le_of_eq len.symm) lim) fun h' tk acc' c' keep at' got => ?_
  have ln : (kvs.map fun kv => kV kv.1).length ≤ sizeLine := by rw [List.length_map]; exact lim
  have vr : Vals (kvs.map fun kv => kV kv.1) acc'.toList := vals_of_at ((List.length_map _).trans (len.trans (got.1.symm.trans Array.length_toList.symm))) fun j y w e1 e2 => by
    obtain ⟨k, y2, e3, e4⟩ := got.2 j w (Array.getElem?_toList.symm.trans e2)
    have e5 : (kvs.map (·.1))[j]? = some k := by rw [KV.keys rk, List.getElem?_map, e3]; rfl
    rw [List.getElem?_map] at e1 e5
    obtain ⟨kv, e6, e7⟩ := Option.map_eq_some_iff.mp e5
    rw [e6] at e1
    cases e1
    rw [← e7] at e4
    exact keyIs_rel e4
  exact ⟨.ref s.heap.objs.size, _, I.laid keep (Nat.le_refl _) (show ObjOk X.prog X.w _ _ _ (.lst (kvs.map fun kv => kV kv.1)) from ⟨ln, acc'.toList, c', vr, by rw [Array.toArray_toList]; exact at'⟩), rfl, q _ (I.hok.fresh (Nat.le_refl _))⟩
theorem c_list (hc : X.calm = true) (hg : Gl X "list") (hm : X.mg "list" = none) (ha : PQ X a f) (hs : starEach [a] X.env = (false, eval a X.env) :: starEach [] X.env := by rfl) (hpl : (backTo pos (starEach [] X.env)).any (·.1) = false := by rfl) : PO' X (.Call (.Name "list" p) [a] [] pos) (u1 f gList) :=
  c_T1 bkO (call_list_of.or (cr_lstD hc)) hg hm (by decide +kernel) ha (fun B Hf env σ H0 H x d1 d Q S r1 z k => by
    cases d1 with
    | list ds =>
      cases z
      obtain ⟨q, xs, rfl, hq, rk⟩ := rq_lst S r1
      exact .inl ⟨q, xs, rfl, .inl hq, fun l hl => opw_lst S rk k hl⟩
    | dict es =>
      cases z
      obtain ⟨q, kvs, rfl, hq, rk⟩ := rq_dct S r1
      exact .inr ⟨q, kvs, rfl, hq, fun l hl => opw_lst S (rpK_keys rk) k hl⟩
    | none => cases z
    | bool _ => cases z
    | int _ => cases z
    | str _ => cases z
    | tuple ds =>
      cases z
      obtain ⟨q, xs, rfl, hq, rk⟩ := rq_tup S r1
      exact .inl ⟨q, xs, rfl, .inr hq, fun l hl => opw_lst S rk k hl⟩) (hs := hs) (hpl := hpl)
end
end Q7

-- part Qf
set_option Elab.async false
set_option linter.all false
set_option maxRecDepth 100000
/-! Qf: statements, targets, walks, loops, comprehensions, defs. -/
namespace Q7
open PySem PySem.Spec PyProof.Rows L2

/-! ### statements -/
/-- what comes behind a statement: the names' new holdings, or what is handed back -/
inductive Out where
  | nx (e : Nv) | rt (d : PyData)
abbrev Sx := Nv → Option Out
def outK (K : PySem.W.Frag) (R : Md) (D : Ends) (B Hf : Hp) : Out → Prop
  | .nx env' => ∀ σ' Hf' H', StOk K B Hf' env' σ' H' → Grow Hf Hf' B → D.nx σ' H'
  | .rt d => ∀ v Hf' H', Sub Hf' H' → Same B H' → Grow Hf Hf' B → R B Hf' H' d v → D.rt v H'
def tS (K : PySem.W.Frag) (R : Md) (g : Sx) : TS := fun D σ H => ∃ B Hf env out, StOk K B Hf env σ H ∧ g env = some out ∧ outK K R D B Hf out
abbrev PSr (X : Cx) (R : Md) (st : Stmt) (g : Sx) : Prop := PS X st (tS X.K R g)
abbrev PBl (X : Cx) (R : Md) (st : List Stmt) (g : Sx) : Prop := PSs X st (tS X.K R g)
section
variable {K : PySem.W.Frag} {R : Md} {B Hf Hf' Hf2 H H' : Hp} {env : Nv} {σ : L2.St} {D : Ends}
theorem Grow.toB (g : Grow Hf Hf' H) (s : Same B H) : Grow Hf Hf' B := ⟨g.same, fun a f n => g.new a f (same_ne s n)⟩
theorem Grow.tr (g : Grow Hf Hf' B) (g2 : Grow Hf' Hf2 B) : Grow Hf Hf2 B := g.trans (Same.refl B) g2
theorem outK.mono {out : Out} (g : Grow Hf Hf' B) (k : outK K R D B Hf out) : outK K R D B Hf' out := by
  cases out with
  | nx e => exact fun σ' Hf2 H' S g2 => k σ' Hf2 H' S (g.tr g2)
  | rt d => exact fun v Hf2 H' s s2 g2 => k v Hf2 H' s s2 (g.tr g2)
end
section
variable {X : Cx} {st : Stmt} {sts : List Stmt} {t t' : TS} {R : Md} {g g2 : Sx} {e : Expr} {pos : Pos}
theorem ps_imp (h : PS X st t) (k : ∀ D σ H, t' D σ H → t D σ H) : PS X st t' := ⟨fun pins s σ H D I q => h.run pins s σ H D I (k D σ H q)⟩
theorem pss_imp (h : PSs X sts t) (k : ∀ D σ H, t' D σ H → t D σ H) : PSs X sts t' := ⟨fun pins s σ H D I q => h.run pins s σ H D I (k D σ H q)⟩
def sNil : Sx := fun env => some (.nx env)
def sCons (g g2 : Sx) : Sx := fun env => (g env).bind fun o => match o with
  | .nx e => g2 e
  | .rt d => some (.rt d)
theorem l_nil : PBl X R [] sNil := pss_imp pss_nil fun D σ H ⟨B, Hf, env, out, S, z, k⟩ => by
  cases z
  exact k σ Hf H S .refl
theorem l_cons (h1 : PSr X R st g) (h2 : PBl X R sts g2) : PBl X R (st :: sts) (sCons g g2) := pss_imp (pss_cons h1 h2) fun D σ H ⟨B, Hf, env, out, S, z, k⟩ => by
  obtain ⟨o, z1, z2⟩ := Option.bind_eq_some_iff.mp z
  refine ⟨B, Hf, env, o, S, z1, ?_⟩
  cases o with
  | nx e => exact fun σ' Hf' H' S' g' => ⟨B, Hf', e, out, S', z2, k.mono g'⟩
  | rt d =>
    cases z2
    exact k
theorem l_one (h1 : PSr X R st g) : PBl X R [st] g := pss_one h1
/-- a name's list or dict stands still from here on (nothing is done) -/
def fz (i : Nat) (env : Nv) : Nv := match env[i]? with
  | some (.ow d) => env.set i (.fr d)
  | _ => env
theorem fz_ok {K : PySem.W.Frag} {B Hf H : Hp} {env : Nv} {σ : L2.St} (i : Nat) (S : StOk K B Hf env σ H) : ∃ Hf', StOk K B Hf' (fz i env) σ H ∧ Grow Hf Hf' B := by
  unfold fz
  split
  · rename_i d ei
    obtain ⟨p, e1, bp, fp, r⟩ := S.cell i _ ei
    obtain ⟨o, eo⟩ : ∃ o, H p = some o := by
      cases q : H p with
      | none => exact (r.there q).elim
      | some o => exact ⟨o, rfl⟩
    have sb : Same Hf (upd Hf p o) := same_new fp
    refine ⟨upd Hf p o, ⟨fun a u q => ?_, S.base, by rw [List.length_set]; exact S.len, fun j c ec => ?_, fun j l q d1 d2 ne e2 e3 => ?_⟩, ⟨same_new fp, fun a f n => ?_⟩⟩
    · by_cases ea : a = p
      · subst ea
        rcases q with q | ⟨w, q⟩
        · rw [upd_same] at q; exact .inl (eo.trans q)
        · rw [upd_same] at q; exact .inr ⟨w, eo.trans q⟩
      · rcases q with q | ⟨w, q⟩
        · rw [upd_ne ea] at q; exact S.sub a u (.inl q)
        · rw [upd_ne ea] at q; exact S.sub a u (.inr ⟨w, q⟩)
    · by_cases ej : i = j
      · subst ej
        have hi : i < env.length := (List.getElem?_eq_some_iff.mp ei).1
        rw [List.getElem?_set_self hi] at ec
        cases ec
        exact ⟨_, e1, r.rp sb (by rw [upd_same, eo])⟩
      · rw [List.getElem?_set_ne ej] at ec
        have hc := S.cell j c ec
        cases c with
        | un => trivial
        | raw v => exact hc
        | fr d2 =>
          obtain ⟨v, h1, h2⟩ := hc
          exact ⟨v, h1, Rp.mono sb _ _ h2⟩
        | ow d2 =>
          obtain ⟨q, h1, h2, h3, h4⟩ := hc
          have ne : q ≠ p := fun w => S.apart i j p d d2 ej ei ec e1 (w ▸ h1)
          exact ⟨q, h1, h2, by rw [upd_ne ne]; exact h3, h4.mono sb rfl⟩
    · have h2 : env[j]? = some (.ow d1) := by
        by_cases ej : i = j
        · subst ej
          rw [List.getElem?_set_self (List.getElem?_eq_some_iff.mp ei).1] at e2
          cases e2
        · rw [List.getElem?_set_ne ej] at e2
          exact e2
      have h3 : env[l]? = some (.ow d2) := by
        by_cases ej : i = l
        · subst ej
          rw [List.getElem?_set_self (List.getElem?_eq_some_iff.mp ei).1] at e3
          cases e3
        · rw [List.getElem?_set_ne ej] at e3
          exact e3
      exact S.apart j l q d1 d2 ne h2 h3
    · have ne : a ≠ p := fun w => n (w ▸ bp)
      rw [upd_ne ne]
      exact f
  · exact ⟨Hf, S, .refl⟩
def sFz (i : Nat) (g : Sx) : Sx := fun env => g (fz i env)
theorem s_fz (i : Nat) (h : PSr X R st g) : PSr X R st (sFz i g) := ps_imp h fun D σ H ⟨B, Hf, env, out, S, z, k⟩ => by
  obtain ⟨Hf', S', g'⟩ := fz_ok i S
  exact ⟨B, Hf', _, out, S', z, k.mono g'⟩
/-- the way that is never taken -/
def sNo : Sx := fun _ => none
theorem s_no : PSr X R st sNo := ps_imp ps_never fun D σ H ⟨B, Hf, env, out, S, z, k⟩ => by cases z
theorem l_no : PBl X R sts sNo := pss_imp pss_never fun D σ H ⟨B, Hf, env, out, S, z, k⟩ => by cases z

/-! ### names stored -/
theorem set_fr {K : PySem.W.Frag} {B Hf H : Hp} {env : Nv} {σ : L2.St} {i : Nat} {d : PyData} {v : V} (S : StOk K B Hf env σ H) (r : Rp K Hf d v) : StOk K B Hf (env.set i (.fr d)) (σ.set i (some v)) H := by
  refine ⟨S.sub, S.base, by rw [List.length_set, List.length_set]; exact S.len, fun j c ec => ?_, fun j l p d1 d2 ne e1 e2 e3 e4 => ?_⟩
  · by_cases ej : i = j
    · subst ej
      have hi : i < env.length := by
        have h := (List.getElem?_eq_some_iff.mp ec).1
        rwa [List.length_set] at h
      rw [List.getElem?_set_self hi] at ec
      cases ec
      rw [List.getElem?_set_self (by rw [← S.len]; exact hi)]
      exact ⟨v, rfl, r⟩
    · rw [List.getElem?_set_ne ej] at ec
      rw [List.getElem?_set_ne ej]
      exact S.cell j c ec
  · by_cases ej : i = j
    · subst ej
      have hi : i < env.length := by
        have h := (List.getElem?_eq_some_iff.mp e1).1
        rwa [List.length_set] at h
      rw [List.getElem?_set_self hi] at e1
      cases e1
    · by_cases el : i = l
      · subst el
        have hi : i < env.length := by
          have h := (List.getElem?_eq_some_iff.mp e2).1
          rwa [List.length_set] at h
        rw [List.getElem?_set_self hi] at e2
        cases e2
      · rw [List.getElem?_set_ne ej] at e1 e3
        rw [List.getElem?_set_ne el] at e2 e4
        exact S.apart j l p d1 d2 ne e1 e2 e3 e4
/-- the address is no name's own -/
def Off (env : Nv) (σ : L2.St) (p : Addr) : Prop := ∀ (j : Nat) (d : PyData), env[j]? = some (.ow d) → σ[j]? = some (some (.ref p)) → False
theorem off_new {K : PySem.W.Frag} {B Hf H : Hp} {env : Nv} {σ : L2.St} {p : Addr} (S : StOk K B Hf env σ H) (h : H p = none) : Off env σ p := fun j d e1 e2 => by
  obtain ⟨q, e3, _, _, r⟩ := S.cell j _ e1
  cases e2.symm.trans e3
  exact r.there h
theorem set_ow {K : PySem.W.Frag} {B Hf H : Hp} {env : Nv} {σ : L2.St} {i : Nat} {d : PyData} {p : Addr} (S : StOk K B Hf env σ H) (bp : B p = none) (fp : Hf p = none) (r : OwR K Hf H p d) (off : Off env σ p) : StOk K B Hf (env.set i (.ow d)) (σ.set i (some (.ref p))) H := by
  refine ⟨S.sub, S.base, by rw [List.length_set, List.length_set]; exact S.len, fun j c ec => ?_, fun j l q d1 d2 ne e1 e2 e3 e4 => ?_⟩
  · by_cases ej : i = j
    · subst ej
      have hi : i < env.length := by
        have h := (List.getElem?_eq_some_iff.mp ec).1
        rwa [List.length_set] at h
      rw [List.getElem?_set_self hi] at ec
      cases ec
      rw [List.getElem?_set_self (by rw [← S.len]; exact hi)]
      exact ⟨p, rfl, bp, fp, r⟩
    · rw [List.getElem?_set_ne ej] at ec
      rw [List.getElem?_set_ne ej]
      exact S.cell j c ec
  · by_cases ej : i = j
    · subst ej
      have el : ¬ i = l := ne
      have hi : i < σ.length := by
        have h := (List.getElem?_eq_some_iff.mp e3).1
        rwa [List.length_set] at h
      rw [List.getElem?_set_self hi] at e3
      cases e3
      rw [List.getElem?_set_ne el] at e2 e4
      exact off l d2 e2 e4
    · rw [List.getElem?_set_ne ej] at e1 e3
      by_cases el : i = l
      · subst el
        have hi : i < σ.length := by
          have h := (List.getElem?_eq_some_iff.mp e4).1
          rwa [List.length_set] at h
        rw [List.getElem?_set_self hi] at e4
        cases e4
        exact off j d1 e1 e3
      · rw [List.getElem?_set_ne el] at e2 e4
        exact S.apart j l q d1 d2 ne e1 e2 e3 e4
def sSet (i : Nat) (f : Nv → Option PyData) : Sx := fun env => (f env).bind fun d => some (.nx (env.set i (.fr d)))
def sSetO (i : Nat) (f : Nv → Option PyData) : Sx := fun env => (f env).bind fun d => some (.nx (env.set i (.ow d)))
theorem le_set {K : PySem.W.Frag} {f : Nv → Option PyData} {te : TE} {i : Nat} (l : Le K (RF K) f te) : ∀ D σ H, tS K R (sSet i f) D σ H → tAsg te (gName i) D σ H := fun D σ H ⟨B, Hf, env, out, S, z, k⟩ => by
  obtain ⟨d, z1, z2⟩ := Option.bind_eq_some_iff.mp z
  cases z2
  exact l σ H _ ⟨B, Hf, env, d, S, z1, fun v Hf' H' S' s' g' r => k _ Hf' H' (set_fr S' r) (g'.toB S.base)⟩
theorem le_setO {K : PySem.W.Frag} {f : Nv → Option PyData} {te : TE} {i : Nat} (l : Le K (RO K) f te) : ∀ D σ H, tS K R (sSetO i f) D σ H → tAsg te (gName i) D σ H := fun D σ H ⟨B, Hf, env, out, S, z, k⟩ => by
  obtain ⟨d, z1, z2⟩ := Option.bind_eq_some_iff.mp z
  cases z2
  exact l σ H _ ⟨B, Hf, env, d, S, z1, fun v Hf' H' S' s' g' ⟨p, e, hp, fp, r⟩ => by
    subst e
    exact k _ Hf' H' (set_ow S' (S.bfree hp) fp r (off_new S hp)) (g'.toB S.base)⟩
theorem le_rfl {K : PySem.W.Frag} {R : Md} {f : Nv → Option PyData} : Le K R f (tX K R f) := fun _ _ _ h => h
/-! return, an expression alone -/
def sRet (f : Nv → Option PyData) : Sx := fun env => (f env).map .rt
theorem s_retF {f : Nv → Option PyData} (he : PF X e f) : PSr X (RF X.K) (.Return (some e) pos) (sRet f) := ps_imp (ps_ret he) fun D σ H ⟨B, Hf, env, out, S, z, k⟩ => by
  obtain ⟨d, z1, rfl⟩ := Option.map_eq_some_iff.mp z
  exact ⟨B, Hf, env, d, S, z1, fun v Hf' H' S' s' g' r => k v Hf' H' S'.sub S'.base (g'.toB S.base) r⟩
theorem s_retO {f : Nv → Option PyData} (he : PO' X e f) : PSr X (RO X.K) (.Return (some e) pos) (sRet f) := ps_imp (ps_ret he) fun D σ H ⟨B, Hf, env, out, S, z, k⟩ => by
  obtain ⟨d, z1, rfl⟩ := Option.map_eq_some_iff.mp z
  exact ⟨B, Hf, env, d, S, z1, fun v Hf' H' S' s' g' ⟨p, e, hp, r⟩ => k v Hf' H' S'.sub S'.base (g'.toB S.base) ⟨p, e, S.bfree hp, r⟩⟩
/-- return of a name's own object -/
theorem s_retW {f : Nv → Option PyData} {i : Nat} (he : PE X e (tVar i)) : PSr X (RO X.K) (.Return (some e) pos) (sRet (nW i)) := ps_imp (ps_ret he) fun D σ H ⟨B, Hf, env, out, S, z, k⟩ => by
  obtain ⟨d, z1, rfl⟩ := Option.map_eq_some_iff.mp z
  obtain ⟨p, e1, bp, fp, r⟩ := S.cell i _ (nW_at z1)
  exact ⟨.ref p, e1, k _ Hf H S.sub S.base .refl ⟨p, rfl, bp, fp, r⟩⟩
def sDrop (f : Nv → Option PyData) : Sx := fun env => (f env).bind fun _ => some (.nx env)
theorem s_expr {f : Nv → Option PyData} (he : PF X e f) (hs : swapsWith e none pos.line X.env = pure false := by rfl) : PSr X R (.Expr e pos) (sDrop f) := ps_imp (ps_expr he hs) fun D σ H ⟨B, Hf, env, out, S, z, k⟩ => by
  obtain ⟨d, z1, z2⟩ := Option.bind_eq_some_iff.mp z
  cases z2
  exact ⟨B, Hf, env, d, S, z1, fun v Hf' H' S' s' g' r => k σ Hf' H' S' (g'.toB S.base)⟩
/-! if, while -/
def sIf (c : Nv → Option Bool) (g g2 : Sx) : Sx := fun env => (c env).bind fun b => if b then g env else g2 env
theorem s_if {c : Expr} {a b : List Stmt} {tc : Nv → Option Bool} (hc : PB X c tc) (ha : PBl X R a g) (hb : PBl X R b g2) : PSr X R (.If c a b pos) (sIf tc g g2) := ps_imp (ps_if hc ha hb) fun D σ H ⟨B, Hf, env, out, S, z, k⟩ => by
  obtain ⟨b, z1, z2⟩ := Option.bind_eq_some_iff.mp z
  refine ⟨B, Hf, env, b, S, z1, fun Hf' H' S' s' g' => ?_⟩
  have k2 := k.mono (g'.toB S.base)
  cases b with
  | true => exact iteT ⟨B, Hf', env, out, S', z2, k2⟩
  | false => exact iteF ⟨B, Hf', env, out, S', z2, k2⟩
def whileF (c : Nv → Option Bool) (g : Sx) : Nat → Sx
  | 0 => fun _ => none
  | n + 1 => fun env => (c env).bind fun b => if b then (g env).bind fun o => match o with
      | .nx e => whileF c g n e
      | .rt d => some (.rt d) else some (.nx env)
theorem s_while {c : Expr} {a : List Stmt} {tc : Nv → Option Bool} {n : Nat} (hp : PassesOwn (model X.prog X.w) X.A X.env X.xe) (hc : PB X c tc) (ha : PBl X R a g) : PSr X R (.While c a [] pos) (whileF tc g n) := ps_imp (ps_while hp hc ha) fun D σ H ⟨B, Hf, env, out, S, z, k⟩ => by
  refine ⟨fun m σ H => ∃ Hf' env', StOk X.K B Hf' env' σ H ∧ Grow Hf Hf' B ∧ whileF tc g m env' = some out, ⟨n, Hf, env, S, .refl, z⟩, ?_⟩
  rintro m σ H ⟨Hf1, env1, S1, g1, z1⟩
  cases m with
  | zero => cases z1
  | succ m =>
    obtain ⟨b, z2, z3⟩ := Option.bind_eq_some_iff.mp (show (tc env1).bind _ = some out from z1)
    refine ⟨B, Hf1, env1, b, S1, z2, fun Hf2 H2 S2 s2 g2' => ?_⟩
    have gg := g1.tr (g2'.toB S1.base)
    cases b with
    | false =>
      cases z3
      exact iteF (k σ Hf2 H2 S2 gg)
    | true =>
      obtain ⟨o, z4, z5⟩ := Option.bind_eq_some_iff.mp z3
      refine iteT ⟨fun σ' H' => ∃ Hf' env', StOk X.K B Hf' env' σ' H' ∧ Grow Hf Hf' B ∧ whileF tc g m env' = some out, fun σ' H' h => ⟨m, Nat.lt_succ_self m, h⟩, B, Hf2, env1, o, S2, z4, ?_⟩
      cases o with
      | nx e2 => exact fun σ' Hf' H' S' g' => ⟨Hf', e2, S', gg.tr g', z5⟩
      | rt d =>
        cases z5
        exact fun v Hf' H' s1 s2 g' r => k v Hf' H' s1 s2 (gg.tr g') r
end
end Q7

-- part Qg
set_option Elab.async false
set_option linter.all false
set_option maxRecDepth 100000
/-! Qg: targets, walks, loops, comprehensions. -/
namespace Q7
open PySem PySem.Spec PyProof.Rows L2

/-! ### targets: js the names' places -/
abbrev Bd := PyData → Nv → Option Nv
def tG (K : PySem.W.Frag) (js : List Nat) (b : Bd) : TG := fun v σ H Q => ∃ B Hf env d env', StOk K B Hf env σ H ∧ Rp K Hf d v ∧ b d env = some env' ∧
  ∀ σ', StOk K B Hf env' σ' H → (∀ i, i ∉ js → σ'[i]? = σ[i]?) → σ'.length = σ.length → Q σ' H
def tGs (K : PySem.W.Frag) (js : List Nat) (b : List PyData → Nv → Option Nv) : TGs := fun vs σ H Q => ∃ B Hf env ds env', StOk K B Hf env σ H ∧ RpA K Hf ds vs ∧ b ds env = some env' ∧
  ∀ σ', StOk K B Hf env' σ' H → (∀ i, i ∉ js → σ'[i]? = σ[i]?) → σ'.length = σ.length → Q σ' H
abbrev PGr (X : Cx) (tg : Expr) (js : List Nat) (b : Bd) : Prop := PG X tg (tG X.K js b)
abbrev PGrs (X : Cx) (tgs : List Expr) (js : List Nat) (b : List PyData → Nv → Option Nv) : Prop := PGs X tgs (tGs X.K js b)
def bNm (i : Nat) : Bd := fun d env => some (env.set i (.fr d))
def bsNil : List PyData → Nv → Option Nv
  | [], env => some env
  | _ :: _, _ => none
def bsCons (b : Bd) (bs : List PyData → Nv → Option Nv) : List PyData → Nv → Option Nv
  | [], _ => none
  | d :: ds, env => (b d env).bind (bs ds)
def bTup (n : Nat) (bs : List PyData → Nv → Option Nv) : Bd
  | .tuple ds, env => if Nat.beq ds.length n then bs ds env else none
  | _, _ => none
section
variable {X : Cx} {e tg : Expr} {es : List Expr} {js js2 : List Nat} {b : Bd} {bs : List PyData → Nv → Option Nv} {pos : Pos}
theorem pg_imp {t t' : TG} (h : PG X e t) (k : ∀ v σ H Q, t' v σ H Q → t v σ H Q) : PG X e t' := ⟨fun pins s σ H v u Q I r q => h.run pins s σ H v u Q I r (k v σ H Q q)⟩
theorem pgs_imp {t t' : TGs} (h : PGs X es t) (k : ∀ v σ H Q, t' v σ H Q → t v σ H Q) : PGs X es t' := ⟨fun pins s σ H v u Q I r q => h.run pins s σ H v u Q I r (k v σ H Q q)⟩
theorem g_nm {i : Nat} (h : PG X e (gName i)) : PGr X e [i] (bNm i) := pg_imp h fun v σ H Q ⟨B, Hf, env, d, env', S, r, z, k⟩ => by
  cases z
  exact k _ (set_fr S r) (fun j hj => List.getElem?_set_ne fun e => hj (by rw [e]; exact List.mem_singleton.mpr rfl)) (List.length_set ..)
theorem gs_nil : PGrs X [] [] bsNil := pgs_imp pgs_nil fun v σ H Q ⟨B, Hf, env, ds, env', S, r, z, k⟩ => by
  cases ds with
  | nil =>
    cases z
    exact ⟨r, k σ S (fun _ _ => rfl) rfl⟩
  | cons d ds => cases z
theorem gs_cons (h1 : PGr X e js b) (h2 : PGrs X es js2 bs) (hs : (assignEach (e :: es) X.env).map (·.2) = assign e X.env :: (assignEach es X.env).map (·.2) := by rfl) : PGrs X (e :: es) (js ++ js2) (bsCons b bs) := pgs_imp (pgs_cons h1 h2 hs) fun v σ H Q ⟨B, Hf, env, ds, env', S, r, z, k⟩ => by
  cases ds with
  | nil => cases z
  | cons d ds =>
    obtain ⟨x, ys, rfl, rx, ry⟩ := r
    obtain ⟨e1, z1, z2⟩ := Option.bind_eq_some_iff.mp (show (b d env).bind (bs ds) = some env' from z)
    refine ⟨x, ys, rfl, B, Hf, env, d, e1, S, rx, z1, fun σ' S' q1 l1 => ⟨B, Hf, e1, ds, env', S', ry, z2, fun σ2 S2 q2 l2 => ?_⟩⟩
    exact k σ2 S2 (fun i hi => (q2 i fun w => hi (List.mem_append_right _ w)).trans (q1 i fun w => hi (List.mem_append_left _ w))) (l2.trans l1)
theorem g_tup {kk n : Nat} (hc : X.calm = true) (h : PGrs X es js bs) (hn : (assignEach es X.env).length = n := by rfl) (hst : (assignEach es X.env).findIdx? (·.1) = none := by rfl) : PGr X (.Tuple es kk pos) js (bTup n bs) := pg_imp (pg_tup hc h hn hst) fun v σ H Q ⟨B, Hf, env, d, env', S, r, z, k⟩ => by
  obtain ⟨ds, rfl⟩ : ∃ ds, d = .tuple ds := by
    cases d <;> first | exact ⟨_, rfl⟩ | cases z
  obtain ⟨a, xs, rfl, hq, rk⟩ := r
  have z : (if Nat.beq ds.length n then bs ds env else none) = some env' := z
  split at z
  · rename_i q
    exact ⟨a, xs, rfl, S.sub.tup hq, by rw [rk.length]; exact Nat.eq_of_beq_eq_true q, B, Hf, env, ds, env', S, rk, z, k⟩
  · cases z
/-- a, b = e -/
def sAsg (f : Nv → Option PyData) (b : Bd) : Sx := fun env => (f env).bind fun d => (b d env).map .nx
theorem s_asg {R : Md} {f : Nv → Option PyData} (he : PF X e f) (hg : PGr X tg js b) (hs : swapsWithSole [tg] e pos.line X.env = pure false := by rfl) (hw : swappedStores [tg] e X.env = pure none := by rfl)
    (h1 : (assignEach [tg] X.env).map (·.2) = [assign tg X.env] := by rfl) : PSr X R (.Assign [tg] e pos) (sAsg f b) := ps_imp (ps_asg he hg hs hw h1) fun D σ H ⟨B, Hf, env, out, S, z, k⟩ => by
  obtain ⟨d, z1, z2⟩ := Option.bind_eq_some_iff.mp z
  obtain ⟨e2, z3, rfl⟩ := Option.map_eq_some_iff.mp z2
  exact ⟨B, Hf, env, d, S, z1, fun v Hf' H' S' s' g' r => ⟨B, Hf', env, d, e2, S', r, z3, fun σ' S2 _ _ => k σ' Hf' H' S2 (g'.toB S.base)⟩⟩
end

/-! ### walks -/
/-- J gives the items ds, as long as what stands still does so -/
structure Wk (K : PySem.W.Frag) (B Hf : Hp) (J : It) (ds : List PyData) : Prop where
  go : ∀ (i : Nat) (H Hf2 : Hp), i < ds.length → Same Hf Hf2 → Sub Hf2 H → Same B H → J.go i H
  stop : ∀ (H Hf2 : Hp), Same Hf Hf2 → Sub Hf2 H → Same B H → J.stop ds.length H
  yld : ∀ (i : Nat) (H Hf2 : Hp) (d : PyData) (x : V) (H' : Hp), ds[i]? = some d → Same Hf Hf2 → Sub Hf2 H → Same B H → J.yld i H x H' → ∃ Hf3, Same H H' ∧ Grow Hf2 Hf3 H ∧ Sub Hf3 H' ∧ Rp K Hf3 d x
def tI (K : PySem.W.Frag) (f : Nv → Option (List PyData)) : TI := fun σ H R => ∃ B Hf env ds, StOk K B Hf env σ H ∧ f env = some ds ∧
  ∀ J Hf' H', StOk K B Hf' env σ H' → Same H H' → Grow Hf Hf' H → Wk K B Hf' J ds → R J H'
abbrev PIr (X : Cx) (tg it : Expr) (f : Nv → Option (List PyData)) : Prop := PI X tg it (tI X.K f)
section
variable {X : Cx} {tg it e a b c : Expr} {f f1 f2 f3 : Nv → Option PyData} {fi : Nv → Option (List PyData)} {pos p : Pos}
theorem pi_imp {t t' : TI} (h : PI X tg it t) (k : ∀ σ H R, t' σ H R → t σ H R) : PI X tg it t' := ⟨fun pins s σ H R I q => h.run pins s σ H R I (k σ H R q)⟩
def lsOf (f : Nv → Option PyData) : Nv → Option (List PyData) := fun env => (f env).bind fun d => match d with
  | .list ds => some ds
  | _ => none
def tsOf (f : Nv → Option PyData) : Nv → Option (List PyData) := fun env => (f env).bind fun d => match d with
  | .tuple ds => some ds
  | _ => none
theorem wk_lst {K : PySem.W.Frag} {B Hf : Hp} {q : Addr} {xs : List V} {ds : List PyData} (h : SqL K Hf q xs) (r : RpA K Hf ds xs) : Wk K B Hf (Itl K q) ds where
  go := fun i H Hf2 hi s sb _ => by
    obtain ⟨x, e, _⟩ := r.get (List.getElem?_eq_getElem hi)
    exact ⟨xs, x, sb.lst (Sub.lst (.of s) h), e⟩
  stop := fun H Hf2 s sb _ => ⟨xs, sb.lst (Sub.lst (.of s) h), by rw [r.length]; exact Nat.le_refl _⟩
  yld := fun i H Hf2 d x H' hd s sb _ ⟨e, y⟩ => by
    subst e
    obtain ⟨x2, e2, r2⟩ := r.get hd
    have e3 := y xs (sb.lst (Sub.lst (.of s) h))
    rw [e2] at e3
    cases e3
    exact ⟨Hf2, Same.refl _, .refl, sb, Rp.mono (s) _ _ r2⟩
theorem wk_tup {K : PySem.W.Frag} {B Hf : Hp} {q : Addr} {xs : List V} {ds : List PyData} (h : SqT K Hf q xs) (r : RpA K Hf ds xs) : Wk K B Hf (Itt K q) ds where
  go := fun i H Hf2 hi s sb _ => by
    obtain ⟨x, e, _⟩ := r.get (List.getElem?_eq_getElem hi)
    exact ⟨xs, x, sb.tup (Sub.tup (.of s) h), e⟩
  stop := fun H Hf2 s sb _ => ⟨xs, sb.tup (Sub.tup (.of s) h), by rw [r.length]; exact Nat.le_refl _⟩
  yld := fun i H Hf2 d x H' hd s sb _ ⟨e, y⟩ => by
    subst e
    obtain ⟨x2, e2, r2⟩ := r.get hd
    have e3 := y xs (sb.tup (Sub.tup (.of s) h))
    rw [e2] at e3
    cases e3
    exact ⟨Hf2, Same.refl _, .refl, sb, Rp.mono (s) _ _ r2⟩
theorem i_lst (h : PF X it f) : PIr X tg it (lsOf f) := pi_imp (pi_list h) fun σ H R ⟨B, Hf, env, ds, S, z, k⟩ => by
  obtain ⟨d, z1, z2⟩ := Option.bind_eq_some_iff.mp z
  obtain ⟨ds2, rfl⟩ : ∃ ds, d = .list ds := by
    cases d <;> first | exact ⟨_, rfl⟩ | cases z2
  cases z2
  exact ⟨B, Hf, env, _, S, z1, fun v Hf' H' S' s' g' ⟨q, xs, e, hq, r⟩ => ⟨q, e, ⟨xs, S'.sub.lst hq⟩, k _ Hf' H' S' s' g' (wk_lst hq r)⟩⟩
theorem i_tup (h : PF X it f) : PIr X tg it (tsOf f) := pi_imp (pi_tup h) fun σ H R ⟨B, Hf, env, ds, S, z, k⟩ => by
  obtain ⟨d, z1, z2⟩ := Option.bind_eq_some_iff.mp z
  obtain ⟨ds2, rfl⟩ : ∃ ds, d = .tuple ds := by
    cases d <;> first | exact ⟨_, rfl⟩ | cases z2
  cases z2
  exact ⟨B, Hf, env, _, S, z1, fun v Hf' H' S' s' g' ⟨q, xs, e, hq, r⟩ => ⟨q, e, ⟨xs, S'.sub.tup hq⟩, k _ Hf' H' S' s' g' (wk_tup hq r)⟩⟩
/-- lo, lo + c, .. (n of them) -/
def rgD (lo c : Int) : Nat → Nat → List PyData
  | 0, _ => []
  | n + 1, i => .int (lo + (i : Nat) * c) :: rgD lo c n (i + 1)
theorem rgD_len (lo c : Int) : ∀ n i, (rgD lo c n i).length = n
  | 0, _ => rfl
  | n + 1, i => by rw [rgD, List.length_cons, rgD_len lo c n (i + 1)]
theorem rgD_get (lo c : Int) : ∀ (n i j : Nat) (d : PyData), (rgD lo c n i)[j]? = some d → d = .int (lo + ((i + j : Nat) : Int) * c)
  | 0, _, _, _, h => by cases h
  | n + 1, i, 0, d, h => by
    cases h
    rfl
  | n + 1, i, j + 1, d, h => by
    have h2 := rgD_get lo c n (i + 1) j d h
    rw [h2, show i + 1 + j = i + (j + 1) by omega]
def okR (i : Int) : Bool := decide (-100000 ≤ i) && decide (i ≤ 100000)
theorem okR_b {i : Int} (h : okR i = true) : -100000 ≤ i ∧ i ≤ 100000 := by
  obtain ⟨h1, h2⟩ := Bool.and_eq_true_iff.mp h
  exact ⟨of_decide_eq_true h1, of_decide_eq_true h2⟩
def rg1 : PyData → Option (List PyData)
  | .int j => if okR j then some (rgD 0 1 j.toNat 0) else none
  | _ => none
def rg2 : PyData → PyData → Option (List PyData)
  | .int i, .int j => if okR i && okR j then some (rgD i 1 (j - i).toNat 0) else none
  | _, _ => none
/-- with a step -/
def rg3 : PyData → PyData → PyData → Option (List PyData)
  | .int i, .int j, .int c => if okR i && okR j && (decide (1 ≤ c) && decide (c ≤ 100000)) && (Builtin.Range.small i j c && decide (0 ≤ Builtin.Range.rangeSize i j c)) then some (rgD i c (Builtin.Range.rangeSize i j c).toNat 0) else none
  | _, _, _ => none
theorem wk_rng {K : PySem.W.Frag} {B Hf : Hp} {lo : Int} {n : Nat} : Wk K B Hf (Itr lo n) (rgD lo 1 n 0) where
  go := fun i H Hf2 hi _ _ _ => by
    rw [rgD_len] at hi
    exact hi
  stop := fun H Hf2 _ _ _ => by
    rw [rgD_len]
    exact Nat.le_refl n
  yld := fun i H Hf2 d x H' hd s sb _ ⟨e, y⟩ => by
    subst e y
    refine ⟨Hf2, Same.refl _, .refl, sb, ?_⟩
    rw [rgD_get _ _ _ _ _ _ hd, Nat.zero_add, Int.mul_one]
    exact rfl
theorem wk_rngC {K : PySem.W.Frag} {B Hf : Hp} {lo c : Int} {n : Nat} : Wk K B Hf (Itc lo c n) (rgD lo c n 0) where
  go := fun i H Hf2 hi _ _ _ => by
    rw [rgD_len] at hi
    exact hi
  stop := fun H Hf2 _ _ _ => by
    rw [rgD_len]
    exact Nat.le_refl n
  yld := fun i H Hf2 d x H' hd s sb _ ⟨e, y⟩ => by
    subst e y
    refine ⟨Hf2, Same.refl _, .refl, sb, ?_⟩
    rw [rgD_get _ _ _ _ _ _ hd, Nat.zero_add]
    exact rfl
def r1Of (f : Nv → Option PyData) : Nv → Option (List PyData) := fun env => (f env).bind rg1
def r2Of (f1 f2 : Nv → Option PyData) : Nv → Option (List PyData) := fun env => (f1 env).bind fun a => (f2 env).bind fun b => rg2 a b
def r3Of (f1 f2 f3 : Nv → Option PyData) : Nv → Option (List PyData) := fun env => (f1 env).bind fun a => (f2 env).bind fun b => (f3 env).bind fun c => rg3 a b c
theorem i_rg1 (hg : Gl X "range") (hm : X.mg "range" = none) (ha : PQ X a f1) (hs : starEach [a] X.env = [(false, eval a X.env)] := by rfl) : PIr X tg (.Call (.Name "range" p) [a] [] pos) (r1Of f1) := pi_imp (pi_range1 hg hm (pa_cons ha pa_nil hs) hs) fun σ H R ⟨B, Hf, env, ds, S, z, k⟩ => by
  obtain ⟨d1, z1, z2⟩ := Option.bind_eq_some_iff.mp z
  obtain ⟨j, rfl⟩ : ∃ i, d1 = .int i := by
    cases d1 <;> first | exact ⟨_, rfl⟩ | cases z2
  have z2 : (if okR j then some (rgD 0 1 j.toNat 0) else none) = some ds := z2
  split at z2
  · rename_i q
    have q1 := okR_b q
    cases z2
    exact ⟨B, Hf, env, _, S, z1, fun v Hf' H' S' s' g' r => ⟨j, by rw [rq_int r], by omega, by omega, k _ Hf' H' S' s' g' wk_rng⟩⟩
  · cases z2
theorem i_rg2 (hg : Gl X "range") (hm : X.mg "range" = none) (ha : PQ X a f1) (hb : PQ X b f2) (hs : starEach [a, b] X.env = [(false, eval a X.env), (false, eval b X.env)] := by rfl) (hs2 : starEach [b] X.env = [(false, eval b X.env)] := by rfl) :
    PIr X tg (.Call (.Name "range" p) [a, b] [] pos) (r2Of f1 f2) := pi_imp (pi_range2 hg hm (pa_cons ha (pa_cons hb pa_nil hs2) (by rw [hs, hs2])) hs hs2) fun σ H R ⟨B, Hf, env, ds, S, z, k⟩ => by
  obtain ⟨d1, z1, z⟩ := Option.bind_eq_some_iff.mp z
  obtain ⟨d2, z2, z⟩ := Option.bind_eq_some_iff.mp z
  obtain ⟨i, rfl⟩ : ∃ i, d1 = .int i := by
    cases d1 <;> first | exact ⟨_, rfl⟩ | cases z
  obtain ⟨j, rfl⟩ : ∃ i, d2 = .int i := by
    cases d2 <;> first | exact ⟨_, rfl⟩ | cases z
  have z : (if okR i && okR j then some (rgD i 1 (j - i).toNat 0) else none) = some ds := z
  split at z
  · rename_i q
    obtain ⟨q1, q2⟩ := Bool.and_eq_true_iff.mp q
    have q1 := okR_b q1
    have q2 := okR_b q2
    cases z
    exact ⟨B, Hf, env, _, S, z1, fun v Hf1 H1 S1 s1 g1 r1 => ⟨B, Hf1, env, _, S1, z2, fun u Hf2 H2 S2 s2 g2 r2 => ⟨i, j, by rw [rq_int r1, rq_int r2], ⟨by omega, by omega, by omega, by omega⟩, k _ Hf2 H2 S2 (s1.trans s2) (g1.trans s1 g2) wk_rng⟩⟩⟩
  · cases z
theorem i_rg3 (hg : Gl X "range") (hm : X.mg "range" = none) (ha : PQ X a f1) (hb : PQ X b f2) (hcc : PQ X c f3)
    (hs : starEach [a, b, c] X.env = (false, eval a X.env) :: starEach [b, c] X.env := by rfl) (hs2 : starEach [b, c] X.env = (false, eval b X.env) :: starEach [c] X.env := by rfl) (hs3 : starEach [c] X.env = (false, eval c X.env) :: starEach [] X.env := by rfl)
    (hpl : (backTo pos (starEach [b, c] X.env)).any (·.1) = false := by rfl) : PIr X tg (.Call (.Name "range" p) [a, b, c] [] pos) (r3Of f1 f2 f3) := pi_imp (pi_range3 hg hm (pa_cons ha (pa_cons hb (pa_cons hcc pa_nil hs3) hs2) hs) hs hpl) fun σ H R ⟨B, Hf, env, ds, S, z, k⟩ => by
  obtain ⟨d1, z1, z⟩ := Option.bind_eq_some_iff.mp z
  obtain ⟨d2, z2, z⟩ := Option.bind_eq_some_iff.mp z
  obtain ⟨d3, z3, z⟩ := Option.bind_eq_some_iff.mp z
  obtain ⟨i, rfl⟩ : ∃ i, d1 = .int i := by
    cases d1 <;> first | exact ⟨_, rfl⟩ | cases z
  obtain ⟨j, rfl⟩ : ∃ i, d2 = .int i := by
    cases d2 <;> first | exact ⟨_, rfl⟩ | cases z
  obtain ⟨l, rfl⟩ : ∃ i, d3 = .int i := by
    cases d3 <;> first | exact ⟨_, rfl⟩ | cases z
  have z : (if okR i && okR j && (decide (1 ≤ l) && decide (l ≤ 100000)) && (Builtin.Range.small i j l && decide (0 ≤ Builtin.Range.rangeSize i j l)) then some (rgD i l (Builtin.Range.rangeSize i j l).toNat 0) else none) = some ds := z
  split at z
  · rename_i q
    obtain ⟨q, q4⟩ := Bool.and_eq_true_iff.mp q
    obtain ⟨q4, q5⟩ := Bool.and_eq_true_iff.mp q4
    obtain ⟨q, q3⟩ := Bool.and_eq_true_iff.mp q
    obtain ⟨q3, q6⟩ := Bool.and_eq_true_iff.mp q3
    have q3 := of_decide_eq_true q3
    have q6 := of_decide_eq_true q6
    have q5 := of_decide_eq_true q5
    cases z
    exact ⟨B, Hf, env, _, S, z1, fun v Hf1 H1 S1 s1 g1 r1 => ⟨B, Hf1, env, _, S1, z2, fun u Hf2 H2 S2 s2 g2 r2 => ⟨B, Hf2, env, _, S2, z3, fun w Hf3 H3 S3 s3 g3 r3 => ⟨i, j, l, _, by rw [rq_int r1, rq_int r2, rq_int r3], ⟨by omega, by omega, q4, by omega⟩, k _ Hf3 H3 S3 (s1.trans (s2.trans s3)) (g1.trans s1 (g2.trans s2 g3)) wk_rngC⟩⟩⟩⟩
  · cases z

/-! enumerate, zip of lists -/
def enD : Nat → List PyData → List PyData
  | _, [] => []
  | i, d :: r => .tuple [.int (i : Nat), d] :: enD (i + 1) r
theorem enD_len : ∀ (i : Nat) (ds : List PyData), (enD i ds).length = ds.length
  | _, [] => rfl
  | i, d :: r => by rw [enD, List.length_cons, List.length_cons, enD_len (i + 1) r]
theorem enD_get : ∀ (i : Nat) (ds : List PyData) (j : Nat) (t : PyData), (enD i ds)[j]? = some t → ∃ d, ds[j]? = some d ∧ t = .tuple [.int ((i + j : Nat) : Int), d]
  | _, [], _, _, h => by cases h
  | i, d :: r, 0, t, h => by
    cases h
    exact ⟨d, rfl, rfl⟩
  | i, d :: r, j + 1, t, h => by
    obtain ⟨d2, e1, e2⟩ := enD_get (i + 1) r j t h
    refine ⟨d2, e1, ?_⟩
    rw [e2, show i + 1 + j = i + (j + 1) by omega]
def zipD : List PyData → List PyData → List PyData
  | d :: r, e :: s => .tuple [d, e] :: zipD r s
  | _, _ => []
theorem zipD_len : ∀ (ds es : List PyData), (zipD ds es).length = min ds.length es.length
  | [], es => by simp [zipD]
  | d :: r, [] => by simp [zipD]
  | d :: r, e :: s => by
    show (zipD r s).length + 1 = min (r.length + 1) (s.length + 1)
    rw [zipD_len r s]
    omega
theorem zipD_get : ∀ (ds es : List PyData) (j : Nat) (t : PyData), (zipD ds es)[j]? = some t → ∃ d e, ds[j]? = some d ∧ es[j]? = some e ∧ t = .tuple [d, e]
  | [], es, j, t, h => by simp [zipD] at h
  | d :: r, [], j, t, h => by simp [zipD] at h
  | d :: r, e :: s, 0, t, h => by
    cases h
    exact ⟨d, e, rfl, rfl, rfl⟩
  | d :: r, e :: s, j + 1, t, h => by
    have h2 : (zipD r s)[j]? = some t := h
    obtain ⟨d2, e2, h3, h4, h5⟩ := zipD_get r s j t h2
    exact ⟨d2, e2, h3, h4, h5⟩
/-- a new pair, frozen at once -/
theorem new_pair {K : PySem.W.Frag} {Hf H : Hp} {T : Addr} {d1 d2 : PyData} {x y : V} (sb : Sub Hf H) (hT : H T = none) (r1 : Rp K Hf d1 x) (r2 : Rp K Hf d2 y) :
    Same H (upd H T (.tup [x, y])) ∧ Grow Hf (upd Hf T (.tup [x, y])) H ∧ Sub (upd Hf T (.tup [x, y])) (upd H T (.tup [x, y])) ∧ Rp K (upd Hf T (.tup [x, y])) (.tuple [d1, d2]) (.ref T) :=
  ⟨same_new hT, grow_new hT sb, sub_upd2 sb, T, _, rfl, .inl (.inl upd_same), RpA.mono ((same_new (free_of_sub sb hT))) _ _ (.cons r1 (.one r2))⟩
theorem wk_enum {K : PySem.W.Frag} {B Hf : Hp} {q : Addr} {xs : List V} {ds : List PyData} (h : SqL K Hf q xs) (r : RpA K Hf ds xs) : Wk K B Hf (Ite K q) (enD 0 ds) where
  go := fun i H Hf2 hi s sb _ => by
    rw [enD_len] at hi
    obtain ⟨x, e, _⟩ := r.get (List.getElem?_eq_getElem hi)
    exact ⟨xs, x, sb.lst (Sub.lst (.of s) h), e⟩
  stop := fun H Hf2 s sb _ => ⟨xs, sb.lst (Sub.lst (.of s) h), by rw [r.length, enD_len]; exact Nat.le_refl _⟩
  yld := fun i H Hf2 d x H' hd s sb _ ⟨T, y, e1, hT, e2, hy⟩ => by
    subst e1 e2
    obtain ⟨d2, h2, rfl⟩ := enD_get _ _ _ _ hd
    obtain ⟨x2, e2, r2⟩ := r.get h2
    have e3 := hy xs (sb.lst (Sub.lst (.of s) h))
    rw [e2] at e3
    cases e3
    rw [Nat.zero_add]
    exact ⟨_, new_pair sb hT (show Rp K Hf2 (.int _) (.int _) from rfl) (Rp.mono (s) _ _ r2)⟩
theorem wk_zip {K : PySem.W.Frag} {B Hf : Hp} {q q2 : Addr} {xs ys : List V} {ds es : List PyData} (h : SqL K Hf q xs) (r : RpA K Hf ds xs) (h2 : SqL K Hf q2 ys) (r2 : RpA K Hf es ys) : Wk K B Hf (Itz K q q2) (zipD ds es) where
  go := fun i H Hf2 hi s sb _ => by
    rw [zipD_len] at hi
    obtain ⟨x, e, _⟩ := r.get (List.getElem?_eq_getElem (Nat.lt_of_lt_of_le hi (Nat.min_le_left _ _)))
    obtain ⟨y, e2, _⟩ := r2.get (List.getElem?_eq_getElem (Nat.lt_of_lt_of_le hi (Nat.min_le_right _ _)))
    exact ⟨xs, ys, x, y, sb.lst (Sub.lst (.of s) h), sb.lst (Sub.lst (.of s) h2), e, e2⟩
  stop := fun H Hf2 s sb _ => ⟨xs, ys, sb.lst (Sub.lst (.of s) h), sb.lst (Sub.lst (.of s) h2), by rw [r.length, r2.length, zipD_len]; omega⟩
  yld := fun i H Hf2 d x H' hd s sb _ ⟨T, x, y, e1, hT, e2, hx, hy⟩ => by
    subst e1 e2
    obtain ⟨d1, d2, k1, k2, rfl⟩ := zipD_get _ _ _ _ hd
    obtain ⟨x2, e2, m1⟩ := r.get k1
    obtain ⟨y2, e3, m2⟩ := r2.get k2
    have e4 := hx xs (sb.lst (Sub.lst (.of s) h))
    have e5 := hy ys (sb.lst (Sub.lst (.of s) h2))
    rw [e2] at e4
    rw [e3] at e5
    cases e4
    cases e5
    exact ⟨_, new_pair sb hT (Rp.mono (s) _ _ m1) (Rp.mono (s) _ _ m2)⟩
def enOf (f : Nv → Option PyData) : Nv → Option (List PyData) := fun env => (lsOf f env).map (enD 0)
def zpOf (f1 f2 : Nv → Option PyData) : Nv → Option (List PyData) := fun env => (lsOf f1 env).bind fun a => (lsOf f2 env).map (zipD a)
theorem lsOf_some {env : Nv} {ds : List PyData} (h : lsOf f env = some ds) : f env = some (.list ds) := by
  obtain ⟨d, z1, z2⟩ := Option.bind_eq_some_iff.mp h
  cases d <;> first | (cases z2; done) | skip
  cases z2
  exact z1
theorem i_enum {elts : List Expr} {kk : Nat} {tpos : Pos} (hg : Gl X "enumerate") (hm : X.mg "enumerate" = none) (ha : PF X a f1) (hs : starEach [a] X.env = [(false, eval a X.env)] := by rfl) : PIr X (.Tuple elts kk tpos) (.Call (.Name "enumerate" p) [a] [] pos) (enOf f1) :=
  pi_imp (pi_enum hg hm (pa_cons ha pa_nil hs) hs) fun σ H R ⟨B, Hf, env, ds, S, z, k⟩ => by
    obtain ⟨ds, z1, rfl⟩ := Option.map_eq_some_iff.mp z
    exact ⟨B, Hf, env, _, S, lsOf_some z1, fun v Hf' H' S' s' g' ⟨q, xs, e, hq, r⟩ => ⟨q, xs, by rw [e], S'.sub.lst hq, k _ Hf' H' S' s' g' (wk_enum hq r)⟩⟩
theorem i_zip {elts : List Expr} {kk : Nat} {tpos : Pos} (hg : Gl X "zip") (hm : X.mg "zip" = none) (ha : PF X a f1) (hb : PF X b f2) (hs : starEach [a, b] X.env = (false, eval a X.env) :: starEach [b] X.env := by rfl) (hs2 : starEach [b] X.env = (false, eval b X.env) :: starEach [] X.env := by rfl)
    (hpl : (backTo pos (starEach [b] X.env)).any (·.1) = false := by rfl) : PIr X (.Tuple elts kk tpos) (.Call (.Name "zip" p) [a, b] [] pos) (zpOf f1 f2) :=
  pi_imp (pi_zip hg hm (pa_cons ha (pa_cons hb pa_nil hs2) hs) hs hpl) fun σ H R ⟨B, Hf, env, ds, S, z, k⟩ => by
    obtain ⟨ds, z1, z2⟩ := Option.bind_eq_some_iff.mp z
    obtain ⟨es, z5, rfl⟩ := Option.map_eq_some_iff.mp z2
    refine ⟨B, Hf, env, _, S, lsOf_some z1, fun v Hf1 H1 S1 s1 g1 ⟨q, xs, e, hq, r⟩ => ⟨B, Hf1, env, _, S1, lsOf_some z5, fun u Hf2 H2 S2 s2 g2 ⟨q2, ys, e2, hq2, r2⟩ => ?_⟩⟩
    have sb : Sub Hf1 Hf2 := .of g2.same
    exact ⟨q, q2, xs, ys, by rw [e, e2], S2.sub.lst (sb.lst hq), S2.sub.lst hq2, k _ Hf2 H2 S2 (s1.trans s2) (g1.trans s1 g2) (wk_zip (sb.lst hq) (RpA.mono g2.same _ _ r) hq2 r2)⟩
end
end Q7

-- part Qh
set_option Elab.async false
set_option linter.all false
set_option maxRecDepth 100000
/-! Qh: for loops, comprehensions, dicts walked, stores, calls of defs. -/
namespace Q7
open PySem PySem.Spec PyProof.Rows L2

/-! ### for -/
def forF (b : Bd) (g : Sx) : List PyData → Sx
  | [], env => some (.nx env)
  | d :: ds, env => (b d env).bind fun e1 => (g e1).bind fun o => match o with
    | .nx e2 => forF b g ds e2
    | .rt r => some (.rt r)
theorem drop_some {α : Type} {l : List α} {i : Nat} {d : α} {r : List α} (h : l.drop i = d :: r) : l[i]? = some d ∧ l.drop (i + 1) = r ∧ i < l.length := by
  have hi : i < l.length := by
    by_cases q : i < l.length
    · exact q
    · rw [List.drop_eq_nil_of_le (Nat.le_of_not_lt q)] at h
      cases h
  rw [List.drop_eq_getElem_cons hi] at h
  injection h with h1 h2
  exact ⟨by rw [List.getElem?_eq_getElem hi, h1], h2, hi⟩
theorem drop_nil {α : Type} {l : List α} {i : Nat} (h : l.drop i = []) (hi : i ≤ l.length) : i = l.length := by
  have := List.drop_eq_nil_iff.mp h
  omega
section
variable {K : PySem.W.Frag} {R : Md} {B Hf H : Hp} {env : Nv} {σ : L2.St} {D : Ends}
/-- the heart of a loop: from the walk on -/
theorem for_core {J : It} {ds : List PyData} {js : List Nat} {b : Bd} {g : Sx} {out : Out} (S : StOk K B Hf env σ H) (W : Wk K B Hf J ds) (z : forF b g ds env = some out) (k : outK K R D B Hf out) :
    ∃ W : Nat → Nat → L2.St → Hp → Prop, (∃ m, W 0 m σ H) ∧ ∀ i m σ H, W i m σ H →
      (J.stop i H ∧ D.nx σ H) ∨ (J.go i H ∧ ∃ N : L2.St → Hp → Prop, (∀ σ' H', N σ' H' → ∃ m', m' < m ∧ W (i + 1) m' σ' H') ∧ ∀ x H', J.yld i H x H' → tG K js b x σ H' fun σ2 H2 => tS K R g { D with nx := N, ct := N, bk := D.nx } σ2 H2) := by
  refine ⟨fun i m σ H => m = ds.length - i ∧ i ≤ ds.length ∧ ∃ Hf' env', StOk K B Hf' env' σ H ∧ Grow Hf Hf' B ∧ forF b g (ds.drop i) env' = some out, ⟨_, rfl, Nat.zero_le _, Hf, env, S, .refl, z⟩, ?_⟩
  rintro i m σ H ⟨rfl, hi, Hf1, env1, S1, g1, z1⟩
  cases e : ds.drop i with
  | nil =>
    rw [e] at z1
    cases z1
    have ei := drop_nil e hi
    subst ei
    exact .inl ⟨W.stop H Hf1 g1.same S1.sub S1.base, k σ Hf1 H S1 g1⟩
  | cons d r =>
    rw [e] at z1
    obtain ⟨hd, hr, hlt⟩ := drop_some e
    obtain ⟨e1, z2, z3⟩ := Option.bind_eq_some_iff.mp (show (b d env1).bind _ = some out from z1)
    obtain ⟨o, z4, z5⟩ := Option.bind_eq_some_iff.mp z3
    refine .inr ⟨W.go i H Hf1 hlt g1.same S1.sub S1.base, fun σ' H' => ∃ Hf' env', StOk K B Hf' env' σ' H' ∧ Grow Hf Hf' B ∧ forF b g (ds.drop (i + 1)) env' = some out, fun σ' H' h => ⟨_, by omega, rfl, hlt, h⟩, fun x H' y => ?_⟩
    obtain ⟨Hf3, s3, g3, sb3, r3⟩ := W.yld i H Hf1 d x H' hd g1.same S1.sub S1.base y
    refine ⟨B, Hf3, env1, d, e1, S1.grow sb3 s3 g3, r3, z2, fun σ2 S2 _ _ => ⟨B, Hf3, e1, o, S2, z4, ?_⟩⟩
    have gg := g1.tr (g3.toB S1.base)
    cases o with
    | nx e2 =>
      refine fun σ' Hf' H' S' g' => ⟨Hf', e2, S', gg.tr g', ?_⟩
      rw [hr]
      exact z5
    | rt d =>
      cases z5
      exact fun v Hf' H' s1 s2 g' r => k v Hf' H' s1 s2 (gg.tr g') r
end
def sFor (fi : Nv → Option (List PyData)) (b : Bd) (g : Sx) : Sx := fun env => (fi env).bind fun ds => forF b g ds env
section
variable {X : Cx} {R : Md} {tg it e : Expr} {body : List Stmt} {fi : Nv → Option (List PyData)} {f : Nv → Option PyData} {js : List Nat} {b : Bd} {g : Sx} {pos : Pos}
theorem s_for (hp : PassesOwn (model X.prog X.w) X.A X.env X.xe) (hc : X.calm = true) (hi : PIr X tg it fi) (hg : PGr X tg js b) (hb : PBl X R body g) (hs : ∀ x, foldedSetIterable it X.env x = pure x := by intro _; rfl) : PSr X R (.For tg it body [] pos) (sFor fi b g) :=
  ps_imp (ps_for hp hc hi hg hb hs) fun D σ H ⟨B, Hf, env, out, S, z, k⟩ => by
    obtain ⟨ds, z1, z2⟩ := Option.bind_eq_some_iff.mp z
    exact ⟨B, Hf, env, ds, S, z1, fun J Hf' H' S' s' g' W => for_core S' W z2 (k.mono (g'.toB S.base))⟩

/-! ### a dict walked by its keys: it is locked meanwhile -/
def ksOf (f : Nv → Option PyData) : Nv → Option (List PyData) := fun env => (f env).bind fun d => match d with
  | .dict es => some (keysD es)
  | _ => none
theorem ksOf_some {env : Nv} {ds : List PyData} (h : ksOf f env = some ds) : ∃ es, f env = some (.dict es) ∧ ds = keysD es := by
  obtain ⟨d, z1, z2⟩ := Option.bind_eq_some_iff.mp h
  cases d <;> first | (cases z2; done) | skip
  cases z2
  exact ⟨_, z1, rfl⟩
theorem keysD_len : ∀ es : List (PyData × PyData), (keysD es).length = es.length
  | [] => rfl
  | (_, _) :: r => by rw [keysD, List.length_cons, List.length_cons, keysD_len r]
theorem wk_keys {K : PySem.W.Frag} {B Hf : Hp} {q : Addr} {od : Obj} {kvs : List (Key × V)} {es : List (PyData × PyData)} (hB : B q = some (.frz od (.dK kvs))) (r : RpK K Hf es kvs) : Wk K B Hf (Itk q od kvs) (keysD es) where
  go := fun i H Hf2 hi s sb bs => ⟨bs q _ hB, by rw [keysD_len, ← r.length] at hi; exact hi⟩
  stop := fun H Hf2 s sb bs => ⟨bs q _ hB, by rw [keysD_len, ← r.length]; exact Nat.le_refl _⟩
  yld := fun i H Hf2 d x H' hd s sb bs ⟨e, k, v, hk, e2⟩ => by
    subst e e2
    refine ⟨Hf2, Same.refl _, .refl, sb, ?_⟩
    obtain ⟨y, e1, e2⟩ := (rpK_keys r).get hd
    rw [List.getElem?_map, hk] at e1
    cases e1
    exact Rp.mono (s) _ _ e2
/-- the protected heap with the lock -/
def lkB (B : Hp) (q : Addr) (o : HO) : Hp := upd B q o
theorem sub_lock {Hf H : Hp} {q : Addr} {u : HO} {od : Obj} (s : Sub Hf H) (h : H q = some u) (mu : Mut (some u)) : Sub Hf (upd H q (.frz od u)) := fun a w r => by
  by_cases e : a = q
  · subst e
    rcases s a w r with z | ⟨o2, z⟩
    · rw [h] at z
      cases z
      exact .inr ⟨od, upd_same⟩
    · rw [h] at z
      cases z
      exact mu.elim
  · rcases s a w r with z | ⟨o2, z⟩
    · exact .inl (by rw [upd_ne e]; exact z)
    · exact .inr ⟨o2, by rw [upd_ne e]; exact z⟩
theorem sub_unlock {Hf H : Hp} {q : Addr} {u : HO} {od : Obj} (s : Sub Hf H) (h : H q = some (.frz od u)) (hf : ∀ o w, Hf q ≠ some (.frz o w)) : Sub Hf (upd H q u) := fun a w r => by
  by_cases e : a = q
  · subst e
    rcases s a w r with z | ⟨o2, z⟩
    · rw [h] at z
      cases z
      rcases r with r | ⟨o3, r⟩
      · exact (hf _ _ r).elim
      · exact (hf _ _ r).elim
    · rw [h] at z
      cases z
      exact .inl upd_same
  · rcases s a w r with z | ⟨o2, z⟩
    · exact .inl (by rw [upd_ne e]; exact z)
    · exact .inr ⟨o2, by rw [upd_ne e]; exact z⟩
theorem st_lock {K : PySem.W.Frag} {B Hf H : Hp} {env : Nv} {σ : L2.St} {q : Addr} {u : HO} {od : Obj} (S : StOk K B Hf env σ H) (h : H q = some u) (mu : Mut (some u)) (hq : Hf q ≠ none) : StOk K (lkB B q (.frz od u)) Hf env σ (upd H q (.frz od u)) := by
  refine ⟨sub_lock S.sub h mu, fun a o e => ?_, S.len, fun i c ec => ?_, S.apart⟩
  · by_cases ea : a = q
    · subst ea
      unfold lkB at e
      rw [upd_same] at e
      rw [upd_same]
      exact e
    · unfold lkB at e
      rw [upd_ne ea] at e
      rw [upd_ne ea]
      exact S.base a o e
  · have hc := S.cell i c ec
    cases c with
    | un => trivial
    | raw v => exact hc
    | fr d => exact hc
    | ow d =>
      obtain ⟨p, e1, e2, e3, e4⟩ := hc
      have ne : p ≠ q := fun w => hq (w ▸ e3)
      exact ⟨p, e1, by unfold lkB; rw [upd_ne ne]; exact e2, e3, e4.mono (Same.refl _) (upd_ne ne)⟩
end
end Q7

-- part Qi
set_option Elab.async false
set_option linter.all false
set_option maxRecDepth 100000
/-! Qi: dicts walked, comprehensions. -/
namespace Q7
open PySem PySem.Spec PyProof.Rows L2

/-- a mode that a lock does not touch -/
structure Lk (R : Md) : Prop where
  to : ∀ {B Hf H : Hp} {q : Addr} {o u : HO} {d : PyData} {v : V}, Hf q ≠ none → R (lkB B q o) Hf H d v → R B Hf (upd H q u) d v
  at_ : ∀ {B Hf H : Hp} {q : Addr} {o : HO} {d : PyData} {v : V}, Hf q ≠ none → R (lkB B q o) Hf H d v → R B Hf H d v
section
variable {K : PySem.W.Frag}
theorem lkF : Lk (RF K) := ⟨fun _ h => h, fun _ h => h⟩
theorem lkO : Lk (RO K) := ⟨fun {B Hf H q o u d v} hq ⟨p, e, bp, fp, r⟩ => by
  have ne : p ≠ q := fun w => hq (w ▸ fp)
  unfold lkB at bp
  rw [upd_ne ne] at bp
  exact ⟨p, e, bp, fp, r.mono (Same.refl _) (upd_ne ne)⟩, fun {B Hf H q o d v} hq ⟨p, e, bp, fp, r⟩ => by
  have ne : p ≠ q := fun w => hq (w ▸ fp)
  unfold lkB at bp
  rw [upd_ne ne] at bp
  exact ⟨p, e, bp, fp, r⟩⟩
variable {B Hf Hf' H H' : Hp} {env env' : Nv} {σ σ' : L2.St} {q : Addr} {kvs : List (Key × V)} {od : Obj}
theorem base_unlock {u o : HO} (b : ∀ w, B q = some w → w = u) (s : Same (lkB B q o) H) : Same B (upd H q u) := fun a w e => by
  by_cases ea : a = q
  · subst ea
    rw [upd_same, b w e]
  · rw [upd_ne ea]
    exact s a w (by unfold lkB; rw [upd_ne ea]; exact e)
theorem base_at {o : HO} (b : ∀ w, B q = some w → w = o) (s : Same (lkB B q o) H) : Same B H := fun a w e => by
  by_cases ea : a = q
  · subst ea
    rw [b w e]
    exact s a _ (by unfold lkB; rw [upd_same])
  · exact s a w (by unfold lkB; rw [upd_ne ea]; exact e)
theorem st_unlock {o u : HO} (S : StOk K (lkB B q o) Hf env σ H) (sb : Sub Hf (upd H q u)) (b : ∀ w, B q = some w → w = u) (hq : Hf q ≠ none) : StOk K B Hf env σ (upd H q u) := by
  refine ⟨sb, base_unlock b S.base, S.len, fun i c ec => ?_, S.apart⟩
  have hc := S.cell i c ec
  cases c with
  | un => trivial
  | raw v => exact hc
  | fr d => exact hc
  | ow d =>
    obtain ⟨p, e1, e2, e3, e4⟩ := hc
    have ne : p ≠ q := fun w => hq (w ▸ e3)
    unfold lkB at e2
    rw [upd_ne ne] at e2
    exact ⟨p, e1, e2, e3, e4.mono (Same.refl _) (upd_ne ne)⟩
theorem st_at {o : HO} (S : StOk K (lkB B q o) Hf env σ H) (b : ∀ w, B q = some w → w = o) (hq : Hf q ≠ none) : StOk K B Hf env σ H := by
  refine ⟨S.sub, base_at b S.base, S.len, fun i c ec => ?_, S.apart⟩
  have hc := S.cell i c ec
  cases c with
  | un => trivial
  | raw v => exact hc
  | fr d => exact hc
  | ow d =>
    obtain ⟨p, e1, e2, e3, e4⟩ := hc
    have ne : p ≠ q := fun w => hq (w ▸ e3)
    unfold lkB at e2
    rw [upd_ne ne] at e2
    exact ⟨p, e1, e2, e3, e4⟩
theorem st_put {o : HO} (S : StOk K B Hf env σ H) (h : H q = some o) (hq : Hf q ≠ none) : StOk K (lkB B q o) Hf env σ H := by
  refine ⟨S.sub, fun a w e => ?_, S.len, fun i c ec => ?_, S.apart⟩
  · by_cases ea : a = q
    · subst ea
      unfold lkB at e
      rw [upd_same] at e
      cases e
      exact h
    · unfold lkB at e
      rw [upd_ne ea] at e
      exact S.base a w e
  have hc := S.cell i c ec
  cases c with
  | un => trivial
  | raw v => exact hc
  | fr d => exact hc
  | ow d =>
    obtain ⟨p, e1, e2, e3, e4⟩ := hc
    have ne : p ≠ q := fun w => hq (w ▸ e3)
    exact ⟨p, e1, by unfold lkB; rw [upd_ne ne]; exact e2, e3, e4⟩
theorem grow_un {o : HO} (g : Grow Hf Hf' (lkB B q o)) : Grow Hf Hf' B := ⟨g.same, fun a f n => g.new a f (by
  by_cases ea : a = q
  · subst ea
    unfold lkB
    rw [upd_same]
    exact fun z => nomatch z
  · unfold lkB
    rw [upd_ne ea]
    exact n)⟩
end
section
variable {X : Cx} {R : Md} {tg it e elt : Expr} {body : List Stmt} {fi : Nv → Option (List PyData)} {f : Nv → Option PyData} {js : List Nat} {b : Bd} {g : Sx} {pos : Pos}
theorem ps_either {st : Stmt} {t1 t2 : TS} (h1 : PS X st t1) (h2 : PS X st t2) : PS X st (fun D σ H => t1 D σ H ∨ t2 D σ H) := ⟨fun pins s σ H D I q => q.elim (h1.run pins s σ H D I) (h2.run pins s σ H D I)⟩
theorem s_forK {i : Nat} (lk : Lk R) (hp : PassesOwn (model X.prog X.w) X.A X.env X.xe) (hc : X.calm = true) (hi : PE X it (tVar i)) (hg : PGr X tg js b) (hb : PBl X R body g) (hs : ∀ x, foldedSetIterable it X.env x = pure x := by intro _; rfl) :
    PSr X R (.For tg it body [] pos) (sFor (ksOf (nF i)) b g) := by
  have h := ps_for (pos := pos) hp hc (pi_keys (tg := tg) hi) hg hb hs
  refine ps_imp (ps_either (ps_lock h) h) fun D σ H ⟨B, Hf, env, out, S, z, k⟩ => ?_
  obtain ⟨ds, z1, z2⟩ := Option.bind_eq_some_iff.mp z
  obtain ⟨es, z3, rfl⟩ := ksOf_some z1
  obtain ⟨v, e1, q, kvs, rfl, hq, rk⟩ := S.cell i _ (nF_at z3)
  have nq : Hf q ≠ none := by rw [hq]; exact fun w => nomatch w
  rcases S.sub q _ (.inl hq) with h1 | ⟨o, h1⟩
  · refine .inl ⟨q, _, h1, trivial, fun od => ⟨.ref q, e1, q, od, rfl, .inl ⟨kvs, upd_same, ?_⟩⟩⟩
    have S' := st_lock (od := od) S h1 trivial nq
    have bq : ∀ w, B q = some w → w = .dK kvs := fun w e => Option.some.inj ((S.base q w e).symm.trans h1)
    refine for_core S' (wk_keys (by unfold lkB; exact upd_same) rk) z2 ?_
    cases out with
    | nx env' =>
      intro σ' Hf' H' S2 g2
      have fq : Hf' q = some (.dK kvs) := g2.same q _ hq
      have hl : H' q = some (.frz od (.dK kvs)) := S2.base q _ (by unfold lkB; exact upd_same)
      exact ⟨hl, k σ' Hf' _ (st_unlock S2 (sub_unlock S2.sub hl fun o w e => by rw [fq] at e; cases e) bq (by rw [fq]; exact fun w => nomatch w)) (grow_un g2)⟩
    | rt d =>
      intro v Hf' H' sb sm g2 r
      have fq : Hf' q = some (.dK kvs) := g2.same q _ hq
      have hl : H' q = some (.frz od (.dK kvs)) := sm q _ (by unfold lkB; exact upd_same)
      exact ⟨hl, k v Hf' _ (sub_unlock sb hl fun o w e => by rw [fq] at e; cases e) (base_unlock bq sm) (grow_un g2) (lk.to (by rw [fq]; exact fun w => nomatch w) r)⟩
  · refine .inr ⟨.ref q, e1, q, o, rfl, .inl ⟨kvs, h1, ?_⟩⟩
    have bq : ∀ w, B q = some w → w = .frz o (.dK kvs) := fun w e => Option.some.inj ((S.base q w e).symm.trans h1)
    refine for_core (st_put S h1 nq) (wk_keys (by unfold lkB; exact upd_same) rk) z2 ?_
    cases out with
    | nx env' =>
      intro σ' Hf' H' S2 g2
      exact k σ' Hf' _ (st_at S2 bq (by rw [g2.same q _ hq]; exact fun w => nomatch w)) (grow_un g2)
    | rt d =>
      intro v Hf' H' sb sm g2 r
      exact k v Hf' _ sb (base_at bq sm) (grow_un g2) (lk.at_ (by rw [g2.same q _ hq]; exact fun w => nomatch w) r)

/-! ### comprehensions -/
/-- the block's own names are forgotten -/
def wpN (env : Nv) : List Nat → Nv
  | [] => env
  | v :: vs => (wpN env vs).set v .un
theorem wpN_len (env : Nv) : ∀ vs, (wpN env vs).length = env.length
  | [] => rfl
  | v :: vs => by rw [wpN, List.length_set, wpN_len env vs]
theorem set_un {K : PySem.W.Frag} {B Hf H : Hp} {env : Nv} {σ : L2.St} (i : Nat) (S : StOk K B Hf env σ H) : StOk K B Hf (env.set i .un) (σ.set i none) H := by
  refine ⟨S.sub, S.base, by rw [List.length_set, List.length_set]; exact S.len, fun j c ec => ?_, fun j l p d1 d2 ne e1 e2 e3 e4 => ?_⟩
  · by_cases ej : i = j
    · subst ej
      have hi : i < env.length := by
        have h := (List.getElem?_eq_some_iff.mp ec).1
        rwa [List.length_set] at h
      rw [List.getElem?_set_self hi] at ec
      cases ec
      trivial
    · rw [List.getElem?_set_ne ej] at ec
      rw [List.getElem?_set_ne ej]
      exact S.cell j c ec
  · by_cases ej : i = j
    · subst ej
      have hi : i < env.length := by
        have h := (List.getElem?_eq_some_iff.mp e1).1
        rwa [List.length_set] at h
      rw [List.getElem?_set_self hi] at e1
      cases e1
    · by_cases el : i = l
      · subst el
        have hi : i < env.length := by
          have h := (List.getElem?_eq_some_iff.mp e2).1
          rwa [List.length_set] at h
        rw [List.getElem?_set_self hi] at e2
        cases e2
      · rw [List.getElem?_set_ne ej] at e1 e3
        rw [List.getElem?_set_ne el] at e2 e4
        exact S.apart j l p d1 d2 ne e1 e2 e3 e4
theorem wpN_ok {K : PySem.W.Frag} {B Hf H : Hp} {env : Nv} {σ : L2.St} (S : StOk K B Hf env σ H) : ∀ vs, StOk K B Hf (wpN env vs) (wipe σ vs) H
  | [] => S
  | v :: vs => by
    unfold wpN wipe
    exact set_un v (wpN_ok S vs)
/-- forgetting only -/
theorem wipe_eq {σ σ' : L2.St} {vs js : List Nat} (hl : σ'.length = (wipe σ vs).length) (h : ∀ i, i ∉ js → σ'[i]? = (wipe σ vs)[i]?) (hj : ∀ i ∈ js, i ∈ vs) : wipe σ' vs = wipe σ vs := by
  refine List.ext_getElem? fun i => ?_
  by_cases hi : i ∈ vs
  · have z : ∀ (σ : L2.St) (vs : List Nat), i ∈ vs → i < σ.length → (wipe σ vs)[i]? = some none := fun σ vs => by
      induction vs with
      | nil => exact fun h => by cases h
      | cons v vs ih =>
        intro h1 h2
        unfold wipe
        by_cases e : v = i
        · subst e
          rw [List.getElem?_set_self (by rw [wipe_length]; exact h2)]
        · rw [List.getElem?_set_ne e]
          exact ih ((List.mem_cons.mp h1).resolve_left fun w => e w.symm) h2
    by_cases hs : i < σ.length
    · rw [z σ vs hi hs, z σ' vs hi (by rw [hl, wipe_length]; exact hs)]
    · rw [List.getElem?_eq_none (by rw [wipe_length, hl, wipe_length]; omega), List.getElem?_eq_none (by rw [wipe_length]; omega)]
  · rw [wipe_out hi]
    exact h i fun w => hi (hj i w)
def lcF (b : Bd) (c : Nv → Option Bool) (f : Nv → Option PyData) (env : Nv) : List PyData → Option (List PyData)
  | [] => some []
  | d :: ds => (b d env).bind fun e1 => (c e1).bind fun k => if k then (f e1).bind fun r => (lcF b c f env ds).map (r :: ·) else lcF b c f env ds
theorem lc_core' {K : PySem.W.Frag} {B Hf H1 : Hp} {env0 : Nv} {σ : L2.St} {vs js : List Nat} {b : Bd} {c : Nv → Option Bool} {f : Nv → Option PyData} {J : It} {ds rs : List PyData} {D : Addr} {Qd : Hp → Prop} (hD : H1 D = none) (hj : ∀ i ∈ js, i ∈ vs) (hz : Nat.ble ds.length 100000 = true)
    (S : StOk K B Hf env0 (wipe σ vs) H1) (W : Wk K B Hf J ds) (z : lcF b c f env0 ds = some rs)
    (k : ∀ Hf' H' xs, StOk K B Hf' env0 (wipe σ vs) H' → Same H1 H' → Grow Hf Hf' H1 → Hf' D = none → H' D = some (.lst xs) → RpA K Hf' rs xs → Qd H') :
    ∃ W : Nat → Nat → Hp → Prop, (∃ m, W 0 m (upd H1 D (.lst []))) ∧ ∀ i m H, W i m H →
      (J.stop i H ∧ Qd H) ∨ (J.go i H ∧ ∃ Nx : Hp → Prop, (∀ H', Nx H' → ∃ m', m' < m ∧ W (i + 1) m' H') ∧ ∀ x H', J.yld i H x H' → tG K js b x (wipe σ vs) H' fun σ2 H2 => wipe σ2 vs = wipe σ vs ∧ tT K c σ2 H2 fun bb H3 =>
        if bb = true then tX K (RF K) f σ2 H3 fun y H4 => ∃ acc, H4 D = some (.lst acc) ∧ acc.length < sizeLine ∧ Nx (upd H4 D (.lst (acc ++ [y]))) else Nx H3) := by
  have off := off_new S hD
  refine ⟨fun i m H => m = ds.length - i ∧ i ≤ ds.length ∧ ∃ Hf' acc as rest, StOk K B Hf' env0 (wipe σ vs) H ∧ Same H1 H ∧ Grow Hf Hf' H1 ∧ Hf' D = none ∧ H D = some (.lst acc) ∧ acc.length ≤ i ∧ RpA K Hf' as acc ∧ lcF b c f env0 (ds.drop i) = some rest ∧ rs = as ++ rest,
    ⟨_, rfl, Nat.zero_le _, Hf, [], [], rs, S.new hD, same_new hD, .refl, S.hfree hD, upd_same, Nat.zero_le _, rfl, z, rfl⟩, ?_⟩
  rintro i m H ⟨rfl, hi, Hf1, acc, as, rest, S1, s1, g1, f1, h1, la, ra, z1, rfl⟩
  cases e : ds.drop i with
  | nil =>
    rw [e] at z1
    cases z1
    have ei := drop_nil e hi
    subst ei
    rw [List.append_nil] at k
    exact .inl ⟨W.stop H Hf1 g1.same S1.sub S1.base, k Hf1 H acc S1 s1 g1 f1 h1 ra⟩
  | cons d r =>
    rw [e] at z1
    obtain ⟨hd, hr, hlt⟩ := drop_some e
    obtain ⟨e1, z2, z3⟩ := Option.bind_eq_some_iff.mp (show (b d env0).bind _ = some rest from z1)
    obtain ⟨kb, z4, z5⟩ := Option.bind_eq_some_iff.mp z3
    refine .inr ⟨W.go i H Hf1 hlt g1.same S1.sub S1.base, fun H => ∃ Hf' acc as rest', StOk K B Hf' env0 (wipe σ vs) H ∧ Same H1 H ∧ Grow Hf Hf' H1 ∧ Hf' D = none ∧ H D = some (.lst acc) ∧ acc.length ≤ i + 1 ∧ RpA K Hf' as acc ∧ lcF b c f env0 (ds.drop (i + 1)) = some rest' ∧ _ = as ++ rest', fun H' h => ⟨_, by omega, rfl, hlt, h⟩, fun x H' y => ?_⟩
    obtain ⟨Hf3, s3, g3, sb3, r3⟩ := W.yld i H Hf1 d x H' hd g1.same S1.sub S1.base y
    have S3 := S1.grow sb3 s3 g3
    have nD : H D ≠ none := by rw [h1]; exact fun w => nomatch w
    refine ⟨B, Hf3, env0, d, e1, S3, r3, z2, fun σ2 S2 q2 l2 => ⟨wipe_eq l2 q2 hj, B, Hf3, e1, kb, S2, z4, fun Hf4 H4 S4 s4 g4 => ?_⟩⟩
    have ss4 := s3.trans s4
    have gg4 := g3.trans s3 g4
    cases kb with
    | false =>
      refine iteF ⟨Hf4, acc, as, rest, S1.grow S4.sub ss4 gg4, s1.trans ss4, g1.trans s1 gg4, gg4.new D f1 nD, ss4 D _ h1, Nat.le_succ_of_le la, RpA.mono gg4.same _ _ ra, ?_, rfl⟩
      rw [hr]
      exact z5
    | true =>
      obtain ⟨rr, z6, z7⟩ := Option.bind_eq_some_iff.mp (show (f e1).bind _ = some rest from z5)
      obtain ⟨rest', z8, rfl⟩ := Option.map_eq_some_iff.mp z7
      refine iteT ⟨B, Hf4, e1, rr, S4, z6, fun y5 Hf5 H5 S5 s5 g5 r5 => ?_⟩
      have ss5 := ss4.trans s5
      have gg5 := gg4.trans ss4 g5
      have h5 : H5 D = some (.lst acc) := ss5 D _ h1
      have f5 : Hf5 D = none := gg5.new D f1 nD
      have T := S1.grow S5.sub ss5 gg5
      refine ⟨acc, h5, Nat.lt_of_le_of_lt la (Nat.lt_trans hlt (line5 hz)), Hf5, acc ++ [y5], as ++ [rr], rest', ⟨sub_updR T.sub f5, fun a o e => ?_, T.len, fun j c ec => ?_, T.apart⟩, fun a o e => ?_, g1.trans s1 gg5, f5, upd_same, ?_, (RpA.mono gg5.same _ _ ra).append (.one r5), ?_, ?_⟩
      · have ne : a ≠ D := ne_of_none e (S.bfree hD)
        rw [upd_ne ne]
        exact T.base a o e
      · have hc := T.cell j c ec
        cases c with
        | un => trivial
        | raw v => exact hc
        | fr d => exact hc
        | ow d =>
          obtain ⟨q, k1, k2, k3, k4⟩ := hc
          have ne : q ≠ D := fun w => off j d ec (w ▸ k1)
          exact ⟨q, k1, k2, k3, k4.mono (Same.refl _) (upd_ne ne)⟩
      · have ne : a ≠ D := ne_of_none e hD
        rw [upd_ne ne]
        exact ss5 a o (s1 a o e)
      · rw [List.length_append]
        exact Nat.succ_le_succ la
      · rw [hr]
        exact z8
      · rw [List.append_assoc]
        rfl
end
end Q7

-- part Qj
set_option Elab.async false
set_option linter.all false
set_option maxRecDepth 100000
/-! Qj: comprehensions as expressions, stores, defs. -/
namespace Q7
open PySem PySem.Spec PyProof.Rows L2

def fLc (fi : Nv → Option (List PyData)) (b : Bd) (c : Nv → Option Bool) (f : Nv → Option PyData) (vs : List Nat) : Nv → Option PyData := fun env => (fi env).bind fun ds => if Nat.ble ds.length 100000 then (lcF b c f (wpN env vs) ds).map .list else none
def bYes : Nv → Option Bool := fun _ => some true
theorem fLc_some {fi : Nv → Option (List PyData)} {b : Bd} {c : Nv → Option Bool} {f : Nv → Option PyData} {vs : List Nat} {env : Nv} {d : PyData} (h : fLc fi b c f vs env = some d) : ∃ ds rs, fi env = some ds ∧ Nat.ble ds.length 100000 = true ∧ lcF b c f (wpN env vs) ds = some rs ∧ d = .list rs := by
  obtain ⟨ds, z1, z2⟩ := Option.bind_eq_some_iff.mp h
  split at z2
  · rename_i q
    obtain ⟨rs, z3, rfl⟩ := Option.map_eq_some_iff.mp z2
    exact ⟨ds, rs, z1, q, z3, rfl⟩
  · cases z2
section
variable {K : PySem.W.Frag} {fi : Nv → Option (List PyData)} {b : Bd} {c : Nv → Option Bool} {f : Nv → Option PyData} {vs js : List Nat}
theorem le_lc (hj : ∀ i ∈ js, i ∈ vs) : Le K (RO K) (fLc fi b c f vs) (tLc (tI K fi) (tG K js b) (tT K c) (tX K (RF K) f) vs) := fun σ H Q ⟨B, Hf, env, d, S, z, k⟩ => by
  obtain ⟨ds, rs, z1, z2, z3, rfl⟩ := fLc_some z
  refine ⟨B, Hf, env, ds, S, z1, fun J Hf1 H1 S1 s1 g1 W D hD => ?_⟩
  exact lc_core' hD hj z2 (wpN_ok S1 vs) W z3 fun Hf' H' xs S' s' g' fD hx rk => k (.ref D) Hf' H' (S1.grow S'.sub s' g') (s1.trans s') (g1.trans s1 g') ⟨D, rfl, s1.free hD, fD, xs, hx, rk⟩
/-- over a dict's keys -/
theorem le_lcK (hj : ∀ i ∈ js, i ∈ vs) {i : Nat} : ∀ σ H Q, tX K (RO K) (fLc (ksOf (nF i)) b c f vs) σ H Q → tLockE (tLc (iKeys (tVar i)) (tG K js b) (tT K c) (tX K (RF K) f) vs) σ H Q ∨ tLc (iKeys (tVar i)) (tG K js b) (tT K c) (tX K (RF K) f) vs σ H Q := fun σ H Q ⟨B, Hf, env, d, S, z, k⟩ => by
  obtain ⟨ds, rs, z1, z2, z3, rfl⟩ := fLc_some z
  obtain ⟨es, z4, rfl⟩ := ksOf_some z1
  obtain ⟨v, e1, q, kvs, rfl, hq, rk⟩ := S.cell i _ (nF_at z4)
  have nq : Hf q ≠ none := by rw [hq]; exact fun w => nomatch w
  rcases S.sub q _ (.inl hq) with h1 | ⟨o, h1⟩
  · refine .inl ⟨q, _, h1, trivial, fun od => ⟨.ref q, e1, q, od, rfl, .inl ⟨kvs, upd_same, fun D hD => ?_⟩⟩⟩
    have S1 := st_lock (od := od) S h1 trivial nq
    have bq : ∀ w, B q = some w → w = .dK kvs := fun w e => Option.some.inj ((S.base q w e).symm.trans h1)
    have nDq : D ≠ q := fun w => by
      subst w
      rw [upd_same] at hD
      cases hD
    have hD0 : H D = none := by rw [upd_ne nDq] at hD; exact hD
    refine lc_core' hD hj z2 (wpN_ok S1 vs) (wk_keys (by unfold lkB; exact upd_same) rk) z3 fun Hf' H' xs S' s' g' fD hx rr => ?_
    have fq : Hf' q = some (.dK kvs) := g'.same q _ hq
    have nq' : Hf' q ≠ none := by rw [fq]; exact fun w => nomatch w
    have hl : H' q = some (.frz od (.dK kvs)) := s' q _ upd_same
    have ub := sub_unlock S'.sub hl fun o w e => by rw [fq] at e; cases e
    have sm : Same H (upd H' q (.dK kvs)) := fun a w e => by
      by_cases ea : a = q
      · subst ea
        rw [h1] at e
        rw [upd_same]
        exact e
      · rw [upd_ne ea]
        exact s' a w (by rw [upd_ne ea]; exact e)
    have gr : Grow Hf Hf' H := ⟨g'.same, fun a f0 n => g'.new a f0 (by
      by_cases ea : a = q
      · subst ea
        rw [upd_same]
        exact fun w => nomatch w
      · rw [upd_ne ea]
        exact n)⟩
    exact ⟨hl, k (.ref D) Hf' _ (S.grow ub sm gr) sm gr ⟨D, rfl, hD0, fD, xs, by rw [upd_ne nDq]; exact hx, rr⟩⟩
  · refine .inr ⟨.ref q, e1, q, o, rfl, .inl ⟨kvs, h1, fun D hD => ?_⟩⟩
    have bq : ∀ w, B q = some w → w = .frz o (.dK kvs) := fun w e => Option.some.inj ((S.base q w e).symm.trans h1)
    have S1 := st_put S h1 nq
    refine lc_core' hD hj z2 (wpN_ok S1 vs) (wk_keys (by unfold lkB; exact upd_same) rk) z3 fun Hf' H' xs S' s' g' fD hx rr => ?_
    exact k (.ref D) Hf' _ (S.grow S'.sub s' g') s' g' ⟨D, rfl, hD, fD, xs, hx, rr⟩
end
section
variable {X : Cx} {R : Md} {tg it e a bb elt : Expr} {ifs : List Expr} {fi : Nv → Option (List PyData)} {f f1 f2 : Nv → Option PyData} {c : Nv → Option Bool} {js : List Nat} {b : Bd} {g : Sx} {pos spos py : Pos} {scope : Scope} {own : List (Str × Nat)}
abbrev PTr (X : Cx) (ifs : List Expr) (c : Nv → Option Bool) : Prop := PTs X ifs (tT X.K c)
theorem t_nil : PTr X [] bYes := ⟨fun pins s σ H Q I ⟨B, Hf, env, k, S, z, q⟩ => by
  cases z
  exact pts_nil.run pins s σ H Q I (q Hf H S (Same.refl H) .refl)⟩
theorem t_one {ce : Expr} (h : PB X ce c) : PTr X [ce] c := pts_one h
theorem c_lc (hc : X.calm = true) (hN : X.N.Nodup) (hi : PIr X tg it fi) (ok : BlkOk X.N X.env.scope scope own)
    (hg : ∀ (s : Shared) (H : Hp) (C : Addr) (cl : List (Str × Addr)) (fp : List Addr), PGr (X.blk s H scope (compEnvC scope cl C X.env) fp) tg js b) (ht : ∀ (s : Shared) (H : Hp) (C : Addr) (cl : List (Str × Addr)) (fp : List Addr), PTr (X.blk s H scope (compEnvC scope cl C X.env) fp) ifs c)
    (he : ∀ (s : Shared) (H : Hp) (C : Addr) (cl : List (Str × Addr)) (fp : List Addr), PF (X.blk s H scope (compEnvC scope cl C X.env) fp) elt f) (hj : ∀ i ∈ js, i ∈ own.map (·.2)) (hs : ∀ x, foldedSetIterable it X.env x = pure x := by intro _; rfl) :
    PO' X (.ListComp elt [⟨tg, it, ifs, 0⟩] scope pos) (fLc fi b c f (own.map (·.2))) := (le_lc hj).pe (pe_lc hc hN hi ok hg ht he hs)
theorem s_lc {i : Nat} {y : Str} (hc : X.calm = true) (hN : X.N.Nodup) (hy : X.N[i]? = some y) (hyl : X.env.scope.names.lookup y = some .local)
    (hsw : swapsWith (.ListComp elt [⟨tg, it, ifs, 0⟩] scope pos) (some (.Name y py)) spos.line X.env = pure true) (hi : PIr X tg it fi) (ok : BlkOk X.N X.env.scope scope own)
    (hg : ∀ (s : Shared) (H : Hp) (C : Addr) (cl : List (Str × Addr)) (fp : List Addr), PGr (X.blk s H scope (compEnvC scope cl C X.env) fp) tg js b) (ht : ∀ (s : Shared) (H : Hp) (C : Addr) (cl : List (Str × Addr)) (fp : List Addr), PTr (X.blk s H scope (compEnvC scope cl C X.env) fp) ifs c)
    (he : ∀ (s : Shared) (H : Hp) (C : Addr) (cl : List (Str × Addr)) (fp : List Addr), PF (X.blk s H scope (compEnvC scope cl C X.env) fp) elt f) (hj : ∀ i ∈ js, i ∈ own.map (·.2)) (hs : ∀ x, foldedSetIterable it X.env x = pure x := by intro _; rfl) :
    PSr X R (.Assign [.Name y py] (.ListComp elt [⟨tg, it, ifs, 0⟩] scope pos) spos) (sSetO i (fLc fi b c f (own.map (·.2)))) := ps_imp (ps_setLc hc hN hy hyl hsw hi ok hg ht he hs) (le_setO (le_lc hj))
theorem c_lcK {i : Nat} (hc : X.calm = true) (hN : X.N.Nodup) (hi : PE X it (tVar i)) (ok : BlkOk X.N X.env.scope scope own)
    (hg : ∀ (s : Shared) (H : Hp) (C : Addr) (cl : List (Str × Addr)) (fp : List Addr), PGr (X.blk s H scope (compEnvC scope cl C X.env) fp) tg js b) (ht : ∀ (s : Shared) (H : Hp) (C : Addr) (cl : List (Str × Addr)) (fp : List Addr), PTr (X.blk s H scope (compEnvC scope cl C X.env) fp) ifs c)
    (he : ∀ (s : Shared) (H : Hp) (C : Addr) (cl : List (Str × Addr)) (fp : List Addr), PF (X.blk s H scope (compEnvC scope cl C X.env) fp) elt f) (hj : ∀ i ∈ js, i ∈ own.map (·.2)) (hs : ∀ x, foldedSetIterable it X.env x = pure x := by intro _; rfl) :
    PO' X (.ListComp elt [⟨tg, it, ifs, 0⟩] scope pos) (fLc (ksOf (nF i)) b c f (own.map (·.2))) := by
  have h := pe_lc (pos := pos) (elt := elt) (ifs := ifs) (g := tG X.K js b) (tt := tT X.K c) (te := tX X.K (RF X.K) f) hc hN (pi_keys (tg := tg) hi) ok hg ht he hs
  exact pe_imp (pe_either (pe_lock h) h) (le_lcK hj)

/-! ### stores into a name's own list or dict -/
/-- the name i, its object changed -/
def chg (i : Nat) (env : Nv) (d : PyData) : Nv := env.set i (.ow d)
theorem st_chg {K : PySem.W.Frag} {B Hf H : Hp} {env : Nv} {σ : L2.St} {i : Nat} {d d' : PyData} {p : Addr} {o : HO} (S : StOk K B Hf env σ H) (ei : env[i]? = some (.ow d)) (es : σ[i]? = some (some (.ref p))) (bp : B p = none) (fp : Hf p = none) (r : OwR K Hf (upd H p o) p d') : StOk K B Hf (chg i env d') σ (upd H p o) := by
  unfold chg
  have hi : i < env.length := (List.getElem?_eq_some_iff.mp ei).1
  refine ⟨sub_updR S.sub fp, fun a w e => ?_, by rw [List.length_set]; exact S.len, fun j c ec => ?_, fun j l q d1 d2 ne e1 e2 e3 e4 => ?_⟩
  · have ne : a ≠ p := ne_of_none e bp
    rw [upd_ne ne]
    exact S.base a w e
  · by_cases ej : i = j
    · subst ej
      rw [List.getElem?_set_self hi] at ec
      cases ec
      exact ⟨p, es, bp, fp, r⟩
    · rw [List.getElem?_set_ne ej] at ec
      have hc := S.cell j c ec
      cases c with
      | un => trivial
      | raw v => exact hc
      | fr d => exact hc
      | ow d2 =>
        obtain ⟨q, k1, k2, k3, k4⟩ := hc
        have ne : q ≠ p := fun w => S.apart i j p d d2 ej ei ec es (w ▸ k1)
        exact ⟨q, k1, k2, k3, k4.mono (Same.refl _) (upd_ne ne)⟩
  · have z : ∀ {m : Nat} {x : PyData}, (env.set i (.ow d'))[m]? = some (.ow x) → ∃ y, env[m]? = some (.ow y) := fun {m x} h => by
      by_cases em : i = m
      · subst em
        exact ⟨d, ei⟩
      · rw [List.getElem?_set_ne em] at h
        exact ⟨x, h⟩
    obtain ⟨y1, k1⟩ := z e1
    obtain ⟨y2, k2⟩ := z e2
    exact S.apart j l q y1 y2 ne k1 k2 e3 e4
theorem same_off {H : Hp} {p : Addr} {o : HO} {B : Hp} (s : Same B H) (bp : B p = none) : Same B (upd H p o) := fun a w e => by
  rw [upd_ne (ne_of_none e bp)]
  exact s a w e
/-- xs.append(e) -/
def sApp (i : Nat) (f : Nv → Option PyData) : Sx := fun env => (f env).bind fun d => match nW i env with
  | some (.list ds) => if Nat.ble ds.length 100000 then some (.nx (chg i env (.list (ds ++ [d])))) else none
  | _ => none
theorem s_app {apos cpos : Pos} {i : Nat} {o : Expr} (h : PE X (.Call (.Attribute o "append" apos) [e] [] cpos) (tBM X.K "list" rAppend (tVar i) (tCons (tX X.K (RF X.K) f) tNil))) (hs : swapsWith (.Call (.Attribute o "append" apos) [e] [] cpos) none pos.line X.env = pure false := by rfl) :
    PSr X R (.Expr (.Call (.Attribute o "append" apos) [e] [] cpos) pos) (sApp i f) := ps_imp (ps_expr h hs) fun D σ H ⟨B, Hf, env, out, S, z, k⟩ => by
  obtain ⟨d, z1, z2⟩ := Option.bind_eq_some_iff.mp z
  split at z2
  · rename_i ds q
    split at z2
    · rename_i q2
      cases z2
      have ei := nW_at q
      obtain ⟨p, es, bp, fp, xs, hp, rk⟩ := S.cell i _ ei
      refine ⟨.ref p, es, .inl ⟨rfl, xs, .inl (.inl hp)⟩, B, Hf, env, d, S, z1, fun v Hf' H' S' s' g' r => ?_⟩
      obtain ⟨p2, es2, _, fp2, xs2, hp2, rk2⟩ := S'.cell i _ ei
      cases es.symm.trans es2
      refine ⟨p, xs2, v, rfl, rfl, hp2, by rw [rk2.length]; exact line5 q2, ?_⟩
      exact k σ Hf' _ (st_chg S' ei es bp fp2 ⟨_, upd_same, rk2.append (.one r)⟩) (g'.toB S.base)
    · cases z2
  · cases z2
/-- xs.extend(e), e a new list -/
def sExt (i : Nat) (f : Nv → Option PyData) : Sx := fun env => (f env).bind fun d => match nW i env, d with
  | some (.list ds), .list es => if Nat.ble (ds.length + es.length) 100000 then some (.nx (chg i env (.list (ds ++ es)))) else none
  | _, _ => none
theorem s_ext {apos cpos : Pos} {i : Nat} {o : Expr} (h : PE X (.Call (.Attribute o "extend" apos) [e] [] cpos) (tBM X.K "list" rExtend (tVar i) (tCons (tX X.K (RO X.K) f) tNil))) (hs : swapsWith (.Call (.Attribute o "extend" apos) [e] [] cpos) none pos.line X.env = pure false := by rfl) :
    PSr X R (.Expr (.Call (.Attribute o "extend" apos) [e] [] cpos) pos) (sExt i f) := ps_imp (ps_expr h hs) fun D σ H ⟨B, Hf, env, out, S, z, k⟩ => by
  obtain ⟨d, z1, z2⟩ := Option.bind_eq_some_iff.mp z
  split at z2
  · rename_i ds es0 q
    split at z2
    · rename_i q2
      cases z2
      have ei := nW_at q
      obtain ⟨p, es, bp, fp, xs, hp, rk⟩ := S.cell i _ ei
      refine ⟨.ref p, es, .inl ⟨rfl, xs, .inl (.inl hp)⟩, B, Hf, env, _, S, z1, fun v Hf' H' S' s' g' ⟨q0, e0, hq0, fq0, ys, hy, ry⟩ => ?_⟩
      subst e0
      obtain ⟨p2, es2, _, fp2, xs2, hp2, rk2⟩ := S'.cell i _ ei
      cases es.symm.trans es2
      refine ⟨p, q0, xs2, ys, rfl, rfl, hp2, hy, by rw [rk2.length, ry.length]; exact Nat.le_of_lt (line5 q2), ?_⟩
      exact k σ Hf' _ (st_chg S' ei es bp fp2 ⟨_, upd_same, rk2.append ry⟩) (g'.toB S.base)
    · cases z2
  · cases z2
/-- xs[j] = e, d[j] = e -/
def keyB (k : Int) : PyData × PyData → Bool
  | (.int j, _) => decide (j = k)
  | _ => false
def dPut (es : List (PyData × PyData)) (k : Int) (d : PyData) : List (PyData × PyData) := if es.any (keyB k) then es.map (fun e => if keyB k e then (e.1, d) else e) else es ++ [(.int k, d)]
def putQ (o : PyData) (k : PyData) (d : PyData) : Option PyData := match o, k with
  | .list ds, .int i => match ixN ds.length i with
    | some j => some (.list (ds.set j d))
    | none => none
  | _, _ => none
def putK' (o : PyData) (k : PyData) (d : PyData) : Option PyData := match o, k with
  | .dict es, .int i => if Nat.ble es.length 1000 then some (.dict (dPut es i d)) else none
  | _, _ => none
def sSt (i : Nat) (fk f : Nv → Option PyData) (pq : PyData → PyData → PyData → Option PyData) : Sx := fun env => (f env).bind fun d => (nW i env).bind fun o => (fk env).bind fun k => (pq o k d).map fun o' => .nx (chg i env o')
theorem rpK_any {K : PySem.W.Frag} {H : Hp} {k : Int} : ∀ {es : List (PyData × PyData)} {kvs : List (Key × V)}, RpK K H es kvs → es.any (keyB k) = kvs.any fun kv => decide (kv.1 = Sum.inl k)
  | [], _, r => by
    cases (show _ = ([] : List (Key × V)) from r)
    rfl
  | (j, e) :: es, _, ⟨i, y, r, e1, e2, h1, q⟩ => by
    subst e1 e2
    rw [List.any_cons, List.any_cons, rpK_any q]
    congr 1
    show decide (i = k) = decide ((Sum.inl i : Key) = Sum.inl k)
    by_cases e : i = k
    · rw [decide_eq_true e, decide_eq_true (congrArg Sum.inl e)]
    · rw [decide_eq_false e, decide_eq_false fun w => e (Sum.inl.inj w)]
theorem rpK_map {K : PySem.W.Frag} {H : Hp} {k : Int} {d : PyData} {x : V} (rx : Rp K H d x) : ∀ {es : List (PyData × PyData)} {kvs : List (Key × V)}, RpK K H es kvs → RpK K H (es.map fun e => if keyB k e then (e.1, d) else e) (kvs.map fun kv => if kv.1 = Sum.inl k then (kv.1, x) else kv)
  | [], _, r => by
    cases (show _ = ([] : List (Key × V)) from r)
    exact rfl
  | (j, e) :: es, _, ⟨i, y, r, e1, e2, h1, q⟩ => by
    subst e1 e2
    have ih := rpK_map (k := k) rx q
    rw [List.map_cons, List.map_cons]
    by_cases e : i = k
    · rw [if_pos (show keyB k (.int i, _) = true from decide_eq_true e), if_pos (congrArg Sum.inl e)]
      exact ⟨i, x, _, rfl, rfl, rx, ih⟩
    · rw [if_neg (show ¬ keyB k (.int i, _) = true from fun w => e (of_decide_eq_true w)), if_neg fun w => e (Sum.inl.inj w)]
      exact ⟨i, y, _, rfl, rfl, h1, ih⟩
theorem rpK_app {K : PySem.W.Frag} {H : Hp} : ∀ {es es2 : List (PyData × PyData)} {kvs kvs2 : List (Key × V)}, RpK K H es kvs → RpK K H es2 kvs2 → RpK K H (es ++ es2) (kvs ++ kvs2)
  | [], _, _, _, r, q => by
    cases (show _ = ([] : List (Key × V)) from r)
    exact q
  | (j, e) :: es, _, _, _, ⟨i, y, r, e1, e2, h1, q⟩, q2 => by
    subst e1 e2
    exact ⟨i, y, _, rfl, rfl, h1, rpK_app q q2⟩
theorem rpK_put {K : PySem.W.Frag} {H : Hp} {k : Int} {d : PyData} {x : V} (rx : Rp K H d x) {es : List (PyData × PyData)} {kvs : List (Key × V)} (r : RpK K H es kvs) : RpK K H (dPut es k d) (putK kvs (Sum.inl k) x) := by
  unfold dPut putK
  rw [rpK_any r]
  split
  · exact rpK_map rx r
  · exact rpK_app r ⟨k, x, [], rfl, rfl, rx, rfl⟩
theorem putK'_some {o k d o' : PyData} (h : putK' o k d = some o') : ∃ es i, o = .dict es ∧ k = .int i ∧ Nat.ble es.length 1000 = true ∧ o' = .dict (dPut es i d) := by
  unfold putK' at h
  split at h
  · split at h
    · rename_i q
      cases h
      exact ⟨_, _, rfl, rfl, q, rfl⟩
    · cases h
  · cases h
theorem putQ_some {o k d o' : PyData} (h : putQ o k d = some o') : ∃ ds i j, o = .list ds ∧ k = .int i ∧ ixN ds.length i = some j ∧ o' = .list (ds.set j d) := by
  unfold putQ at h
  split at h
  · split at h
    · rename_i q
      cases h
      exact ⟨_, _, _, rfl, rfl, q, rfl⟩
    · cases h
  · cases h
theorem line3 {n : Nat} (h : Nat.ble n 1000 = true) : n < sizeLine := Nat.lt_of_le_of_lt (Nat.le_of_ble_eq_true h) (by decide)
/-- d[k] = e -/
theorem s_dput {i : Nat} {o ki value : Expr} {pos' : Pos} (hu : X.A.units + 64 < cLine) (ho : PE X o (tVar i)) (hk : PQ X ki f1) (hv : PF X value f) (hs : swapsWith value (some (.Subscript o ki pos')) pos.line X.env = pure false) : PSr X R (.Assign [.Subscript o ki pos'] value pos) (sSt i f1 f putK') :=
  ps_imp (ps_dput (by omega) ho hk hv hs) fun D σ H ⟨B, Hf, env, out, S, z, k⟩ => by
    obtain ⟨d, z1, z⟩ := Option.bind_eq_some_iff.mp z
    obtain ⟨od, z2, z⟩ := Option.bind_eq_some_iff.mp z
    obtain ⟨kd, z3, z⟩ := Option.bind_eq_some_iff.mp z
    obtain ⟨o', z4, rfl⟩ := Option.map_eq_some_iff.mp z
    obtain ⟨es, ik, rfl, rfl, q, rfl⟩ := putK'_some z4
    have ei := nW_at z2
    refine ⟨B, Hf, env, d, S, z1, fun v Hf1 H1 S1 s1 g1 r1 => ?_⟩
    obtain ⟨p, e1, bp, fp, kvs, hp, rk⟩ := S1.cell i _ ei
    refine ⟨.ref p, e1, B, Hf1, env, _, S1, z3, fun y Hf2 H2 S2 s2 g2 r2 => ?_⟩
    have e2 := rq_int r2
    subst e2
    obtain ⟨p2, e2, _, fp2, kvs2, hp2, rk2⟩ := S2.cell i _ ei
    cases e1.symm.trans e2
    refine ⟨p, _, rfl, DPut.k (k := Sum.inl ik) hp2 (by rw [rk2.length]; exact line3 q), ?_⟩
    exact k σ Hf2 _ (st_chg S2 ei e1 bp fp2 ⟨_, upd_same, rpK_put (Rp.mono g2.same _ _ r1) rk2⟩) ((g1.trans s1 g2).toB S.base)
/-- xs[j] = e -/
theorem s_lput {i : Nat} {o ki value : Expr} {pos' : Pos} (ho : PE X o (tVar i)) (hk : PQ X ki f1) (hv : PF X value f) (ha : ∀ v, assign (.Subscript o ki pos') X.env v = (do
      let ov ← holding [v] (eval o X.env)
      let iv ← holding [v, ov] (eval ki X.env)
      standAt pos'
      holding [v, ov, iv] (setItem ov iv v)
      release [v, ov, iv] []) := by intro _; rfl) (hs : swapsWithSole [.Subscript o ki pos'] value pos.line X.env = pure false := by rfl) (hw : swappedStores [.Subscript o ki pos'] value X.env = pure none := by rfl)
    (h1 : (assignEach [.Subscript o ki pos'] X.env).map (·.2) = [assign (.Subscript o ki pos') X.env] := by rfl) : PSr X R (.Assign [.Subscript o ki pos'] value pos) (sSt i f1 f putQ) :=
  ps_imp (ps_asg hv (pg_sub ho hk set_list ha) hs hw h1) fun D σ H ⟨B, Hf, env, out, S, z, k⟩ => by
    obtain ⟨d, z1, z⟩ := Option.bind_eq_some_iff.mp z
    obtain ⟨od, z2, z⟩ := Option.bind_eq_some_iff.mp z
    obtain ⟨kd, z3, z⟩ := Option.bind_eq_some_iff.mp z
    obtain ⟨o', z4, rfl⟩ := Option.map_eq_some_iff.mp z
    obtain ⟨ds, ik, j, rfl, rfl, q, rfl⟩ := putQ_some z4
    have ei := nW_at z2
    refine ⟨B, Hf, env, d, S, z1, fun v Hf1 H1 S1 s1 g1 r1 => ?_⟩
    obtain ⟨p, e1, bp, fp, kvs, hp, rk⟩ := S1.cell i _ ei
    refine ⟨.ref p, e1, B, Hf1, env, _, S1, z3, fun y Hf2 H2 S2 s2 g2 r2 => ?_⟩
    have e2 := rq_int r2
    subst e2
    obtain ⟨p2, e2, _, fp2, xs2, hp2, rk2⟩ := S2.cell i _ ei
    cases e1.symm.trans e2
    refine ⟨p, xs2, ik, j, rfl, rfl, hp2, by rw [rk2.length]; exact q, ?_⟩
    exact k σ Hf2 _ (st_chg S2 ei e1 bp fp2 ⟨_, upd_same, rk2.set j (Rp.mono g2.same _ _ r1)⟩) ((g1.trans s1 g2).toB S.base)
end
end Q7

-- part Qk
set_option Elab.async false
set_option linter.all false
set_option maxRecDepth 100000
/-! Qk: names stored together, calls of defs, defs, some built-ins. -/
namespace Q7
open PySem PySem.Spec PyProof.Rows L2
open C8 (Cal pe_c)

/-! ### several names at once -/
def RX (K : PySem.W.Frag) (o : Bool) : Md := if o then RO K else RF K
def cO (o : Bool) (d : PyData) : Cell := if o then .ow d else .fr d
/-- what a value may be stored as -/
def EvO (K : PySem.W.Frag) (B Hf H : Hp) (env : Nv) (σ : L2.St) : Bool → PyData → V → Prop
  | true, d, v => ∃ p, v = .ref p ∧ B p = none ∧ Hf p = none ∧ OwR K Hf H p d ∧ Off env σ p
  | false, d, v => Rp K Hf d v
section
variable {K : PySem.W.Frag} {B Hf Hf' Hf2 H H' H2 : Hp} {env : Nv} {σ : L2.St} {o o1 o2 : Bool} {d d1 d2 : PyData} {v v1 v2 : V} {i j : Nat} {p : Addr}
theorem set_ev (S : StOk K B Hf env σ H) (e : EvO K B Hf H env σ o d v) : StOk K B Hf (env.set i (cO o d)) (σ.set i (some v)) H := by
  cases o with
  | true =>
    obtain ⟨p, rfl, b, f, r, off⟩ := e
    exact set_ow S b f r off
  | false => exact set_fr S e
theorem off_set (off : Off env σ p) (ne : o = true → v ≠ .ref p) : Off (env.set i (cO o d)) (σ.set i (some v)) p := fun j d2 e1 e2 => by
  by_cases ej : i = j
  · subst ej
    have hi : i < env.length := by
      have h := (List.getElem?_eq_some_iff.mp e1).1
      rwa [List.length_set] at h
    have hs : i < σ.length := by
      have h := (List.getElem?_eq_some_iff.mp e2).1
      rwa [List.length_set] at h
    rw [List.getElem?_set_self hi] at e1
    rw [List.getElem?_set_self hs] at e2
    cases o with
    | true => exact ne rfl (Option.some.inj (Option.some.inj e2))
    | false => cases e1
  · rw [List.getElem?_set_ne ej] at e1 e2
    exact off j d2 e1 e2
theorem ev_of (S : StOk K B Hf env σ H) (r : RX K o H Hf' H' d v) : EvO K B Hf' H' env σ o d v := by
  cases o with
  | true =>
    obtain ⟨p, rfl, h, f, r⟩ := r
    exact ⟨p, rfl, S.bfree h, f, r, off_new S h⟩
  | false => exact r
theorem ev_fw (e : EvO K B Hf H env σ o d v) (s : Same H H') (g : Grow Hf Hf' H) : EvO K B Hf' H' env σ o d v := by
  cases o with
  | true =>
    obtain ⟨p, rfl, b, f, r, off⟩ := e
    exact ⟨p, rfl, b, g.new p f r.there, r.mono g.same (same_of_owr s r), off⟩
  | false => exact Rp.mono g.same _ _ e
theorem ev_set (e2 : EvO K B Hf H env σ o2 d2 v2) (ne : ∀ p, o1 = true → o2 = true → v1 = .ref p → v2 = .ref p → False) : EvO K B Hf H (env.set i (cO o1 d1)) (σ.set i (some v1)) o2 d2 v2 := by
  cases o2 with
  | true =>
    obtain ⟨p, rfl, b, f, r, off⟩ := e2
    exact ⟨p, rfl, b, f, r, off_set off fun h z => ne p h rfl z rfl⟩
  | false => exact e2
/-- a later value is no earlier own object -/
theorem ev_ne (e1 : EvO K B Hf H env σ o1 d1 v1) (r2 : RX K o2 H Hf' H' d2 v2) : ∀ p, o1 = true → o2 = true → v1 = .ref p → v2 = .ref p → False := fun p h1 h2 z1 z2 => by
  subst h1 h2
  obtain ⟨p1, rfl, _, _, r, _⟩ := e1
  obtain ⟨p2, rfl, h, _⟩ := r2
  cases z1
  cases z2
  exact r.there h
end
section
variable {X : Cx} {R : Md} {a b c e : Expr} {f1 f2 f3 : Nv → Option PyData} {i j l : Nat} {o1 o2 o3 : Bool} {x y z : Str} {px py pz pt pos pt2 : Pos} {kt k2 : Nat}
def sPar2 (i j : Nat) (o1 o2 : Bool) (f1 f2 : Nv → Option PyData) : Sx := fun env => (f1 env).bind fun d1 => (f2 env).bind fun d2 => some (.nx ((env.set i (cO o1 d1)).set j (cO o2 d2)))
def sPar3 (i j l : Nat) (o1 o2 o3 : Bool) (f1 f2 f3 : Nv → Option PyData) : Sx := fun env => (f1 env).bind fun d1 => (f2 env).bind fun d2 => (f3 env).bind fun d3 => some (.nx (((env.set i (cO o1 d1)).set j (cO o2 d2)).set l (cO o3 d3)))
theorem s_par2 (hc : X.calm = true) (hN : X.N.Nodup) (hi : X.N[i]? = some x) (hj : X.N[j]? = some y) (hij : i ≠ j) (hx : X.env.scope.names.lookup x = some .local) (hy : X.env.scope.names.lookup y = some .local) (ha : PE X a (tX X.K (RX X.K o1) f1)) (hb : PE X b (tX X.K (RX X.K o2) f2))
    (hw : swappedStores [.Tuple [.Name x px, .Name y py] kt pt] (.Tuple [a, b] k2 pt2) X.env = pure (some [x, y])) (hs : swapsWithSole [.Tuple [.Name x px, .Name y py] kt pt] (.Tuple [a, b] k2 pt2) pos.line X.env = pure false := by rfl)
    (hs1 : starEach [a, b] X.env = (false, eval a X.env) :: starEach [b] X.env := by rfl) (hs2 : starEach [b] X.env = (false, eval b X.env) :: starEach [] X.env := by rfl) :
    PSr X R (.Assign [.Tuple [.Name x px, .Name y py] kt pt] (.Tuple [a, b] k2 pt2) pos) (sPar2 i j o1 o2 f1 f2) :=
  ps_imp (ps_par hc hN hi hj hij hx hy (pa_cons ha (pa_cons hb pa_nil hs2) hs1) hw hs) fun D σ H ⟨B, Hf, env, out, S, z, k⟩ => by
    obtain ⟨d1, z1, z⟩ := Option.bind_eq_some_iff.mp z
    obtain ⟨d2, z2, z⟩ := Option.bind_eq_some_iff.mp z
    cases z
    refine ⟨B, Hf, env, d1, S, z1, fun v1 Hf1 H1 S1 s1 g1 r1 => ⟨B, Hf1, env, d2, S1, z2, fun v2 Hf2 H2 S2 s2 g2 r2 => ⟨v1, v2, rfl, ?_⟩⟩⟩
    have e1 := ev_of S r1
    have e2 := ev_of S1 r2
    exact k _ Hf2 H2 (set_ev (set_ev S2 (ev_fw e1 s2 g2)) (ev_set e2 (ev_ne e1 r2))) ((g1.trans s1 g2).toB S.base)
theorem s_par3 (hc : X.calm = true) (hN : X.N.Nodup) (hi : X.N[i]? = some x) (hj : X.N[j]? = some y) (hl : X.N[l]? = some z) (hij : i ≠ j) (hil : i ≠ l) (hjl : j ≠ l) (hx : X.env.scope.names.lookup x = some .local) (hy : X.env.scope.names.lookup y = some .local) (hz : X.env.scope.names.lookup z = some .local)
    (ha : PE X a (tX X.K (RX X.K o1) f1)) (hb : PE X b (tX X.K (RX X.K o2) f2)) (hcc : PE X c (tX X.K (RX X.K o3) f3))
    (hw : swappedStores [.Tuple [.Name x px, .Name y py, .Name z pz] kt pt] (.Tuple [a, b, c] k2 pt2) X.env = pure (some [x, y, z])) (hs : swapsWithSole [.Tuple [.Name x px, .Name y py, .Name z pz] kt pt] (.Tuple [a, b, c] k2 pt2) pos.line X.env = pure false := by rfl)
    (hs1 : starEach [a, b, c] X.env = (false, eval a X.env) :: starEach [b, c] X.env := by rfl) (hs2 : starEach [b, c] X.env = (false, eval b X.env) :: starEach [c] X.env := by rfl) (hs3 : starEach [c] X.env = (false, eval c X.env) :: starEach [] X.env := by rfl) :
    PSr X R (.Assign [.Tuple [.Name x px, .Name y py, .Name z pz] kt pt] (.Tuple [a, b, c] k2 pt2) pos) (sPar3 i j l o1 o2 o3 f1 f2 f3) :=
  ps_imp (ps_par3 hc hN hi hj hl hij hil hjl hx hy hz (pa_cons ha (pa_cons hb (pa_cons hcc pa_nil hs3) hs2) hs1) hw hs) fun D σ H ⟨B, Hf, env, out, S, w, k⟩ => by
    obtain ⟨d1, z1, w⟩ := Option.bind_eq_some_iff.mp w
    obtain ⟨d2, z2, w⟩ := Option.bind_eq_some_iff.mp w
    obtain ⟨d3, z3, w⟩ := Option.bind_eq_some_iff.mp w
    cases w
    refine ⟨B, Hf, env, d1, S, z1, fun v1 Hf1 H1 S1 s1 g1 r1 => ⟨B, Hf1, env, d2, S1, z2, fun v2 Hf2 H2 S2 s2 g2 r2 => ⟨B, Hf2, env, d3, S2, z3, fun v3 Hf3 H3 S3 s3 g3 r3 => ⟨v1, v2, v3, rfl, ?_⟩⟩⟩⟩
    have e1 := ev_of S r1
    have e2 := ev_of S1 r2
    have e3 := ev_of S2 r3
    exact k _ Hf3 H3 (set_ev (set_ev (set_ev S3 (ev_fw (ev_fw e1 s2 g2) s3 g3)) (ev_set (ev_fw e2 s3 g3) (ev_ne e1 r2))) (ev_set (ev_set e3 (ev_ne (ev_fw e1 s2 g2) r3)) (ev_ne e2 r3))) ((g1.trans s1 (g2.trans s2 g3)).toB S.base)
/-- the same through a tuple (a name is captured) -/
theorem s_parT2 (ha : PE X a (tX X.K (RX X.K o1) f1)) (hb : PE X b (tX X.K (RX X.K o2) f2)) (hg : PG X (.Tuple [.Name x px, .Name y py] kt pt) (gTup X.K 2 (gCons (gName i) (gCons (gName j) gNil))))
    (hw : swappedStores [.Tuple [.Name x px, .Name y py] kt pt] (.Tuple [a, b] k2 pt2) X.env = pure none := by rfl) (hs : swapsWithSole [.Tuple [.Name x px, .Name y py] kt pt] (.Tuple [a, b] k2 pt2) pos.line X.env = pure false := by rfl)
    (h1 : (assignEach [.Tuple [.Name x px, .Name y py] kt pt] X.env).map (·.2) = [assign (.Tuple [.Name x px, .Name y py] kt pt) X.env] := by rfl) (hs1 : starEach [a, b] X.env = (false, eval a X.env) :: starEach [b] X.env := by rfl) (hs2 : starEach [b] X.env = (false, eval b X.env) :: starEach [] X.env := by rfl) :
    PSr X R (.Assign [.Tuple [.Name x px, .Name y py] kt pt] (.Tuple [a, b] k2 pt2) pos) (sPar2 i j o1 o2 f1 f2) :=
  ps_imp (ps_asg (pe_tup (pa_cons ha (pa_cons hb pa_nil hs2) hs1)) hg hs hw h1) fun D σ H ⟨B, Hf, env, out, S, z, k⟩ => by
    obtain ⟨d1, z1, z⟩ := Option.bind_eq_some_iff.mp z
    obtain ⟨d2, z2, z⟩ := Option.bind_eq_some_iff.mp z
    cases z
    refine ⟨B, Hf, env, d1, S, z1, fun v1 Hf1 H1 S1 s1 g1 r1 => ⟨B, Hf1, env, d2, S1, z2, fun v2 Hf2 H2 S2 s2 g2 r2 => ⟨by show 2 ≤ sizeLine; decide, fun T hT => ⟨T, [v1, v2], rfl, .inl (.inl upd_same), rfl, v1, [v2], rfl, v2, [], rfl, rfl, ?_⟩⟩⟩⟩
    have e1 := ev_of S r1
    have e2 := ev_of S1 r2
    have sn : Same H2 (upd H2 T (.tup [v1, v2])) := same_new hT
    exact k _ Hf2 _ (set_ev (set_ev (S2.new hT) (ev_fw (ev_fw e1 s2 g2) sn .refl)) (ev_set (ev_fw e2 sn .refl) (ev_ne e1 r2))) ((g1.trans s1 g2).toB S.base)
theorem s_parT3 (ha : PE X a (tX X.K (RX X.K o1) f1)) (hb : PE X b (tX X.K (RX X.K o2) f2)) (hcc : PE X c (tX X.K (RX X.K o3) f3)) (hg : PG X (.Tuple [.Name x px, .Name y py, .Name z pz] kt pt) (gTup X.K 3 (gCons (gName i) (gCons (gName j) (gCons (gName l) gNil)))))
    (hw : swappedStores [.Tuple [.Name x px, .Name y py, .Name z pz] kt pt] (.Tuple [a, b, c] k2 pt2) X.env = pure none := by rfl) (hs : swapsWithSole [.Tuple [.Name x px, .Name y py, .Name z pz] kt pt] (.Tuple [a, b, c] k2 pt2) pos.line X.env = pure false := by rfl)
    (h1 : (assignEach [.Tuple [.Name x px, .Name y py, .Name z pz] kt pt] X.env).map (·.2) = [assign (.Tuple [.Name x px, .Name y py, .Name z pz] kt pt) X.env] := by rfl)
    (hs1 : starEach [a, b, c] X.env = (false, eval a X.env) :: starEach [b, c] X.env := by rfl) (hs2 : starEach [b, c] X.env = (false, eval b X.env) :: starEach [c] X.env := by rfl) (hs3 : starEach [c] X.env = (false, eval c X.env) :: starEach [] X.env := by rfl) :
    PSr X R (.Assign [.Tuple [.Name x px, .Name y py, .Name z pz] kt pt] (.Tuple [a, b, c] k2 pt2) pos) (sPar3 i j l o1 o2 o3 f1 f2 f3) :=
  ps_imp (ps_asg (pe_tup (pa_cons ha (pa_cons hb (pa_cons hcc pa_nil hs3) hs2) hs1)) hg hs hw h1) fun D σ H ⟨B, Hf, env, out, S, w, k⟩ => by
    obtain ⟨d1, z1, w⟩ := Option.bind_eq_some_iff.mp w
    obtain ⟨d2, z2, w⟩ := Option.bind_eq_some_iff.mp w
    obtain ⟨d3, z3, w⟩ := Option.bind_eq_some_iff.mp w
    cases w
    refine ⟨B, Hf, env, d1, S, z1, fun v1 Hf1 H1 S1 s1 g1 r1 => ⟨B, Hf1, env, d2, S1, z2, fun v2 Hf2 H2 S2 s2 g2 r2 => ⟨B, Hf2, env, d3, S2, z3, fun v3 Hf3 H3 S3 s3 g3 r3 => ⟨by show 3 ≤ sizeLine; decide, fun T hT => ⟨T, [v1, v2, v3], rfl, .inl (.inl upd_same), rfl, v1, [v2, v3], rfl, v2, [v3], rfl, v3, [], rfl, rfl, ?_⟩⟩⟩⟩⟩
    have e1 := ev_of S r1
    have e2 := ev_of S1 r2
    have e3 := ev_of S2 r3
    have sn : Same H3 (upd H3 T (.tup [v1, v2, v3])) := same_new hT
    exact k _ Hf3 _ (set_ev (set_ev (set_ev (S3.new hT) (ev_fw (ev_fw (ev_fw e1 s2 g2) s3 g3) sn .refl)) (ev_set (ev_fw (ev_fw e2 s3 g3) sn .refl) (ev_ne e1 r2))) (ev_set (ev_set (ev_fw e3 sn .refl) (ev_ne (ev_fw e1 s2 g2) r3)) (ev_ne e2 r3))) ((g1.trans s1 (g2.trans s2 g3)).toB S.base)
end

/-! ### defs -/
/-- the promise of a pure def: F of the data handed in -/
def spF (K : PySem.W.Frag) (R : Md) (F : List PyData → Option PyData) : Sp := fun vs H Q _ => ∃ Hf ds d, Sub Hf H ∧ RpA K Hf ds vs ∧ F ds = some d ∧ ∀ v Hf' H', Sub Hf' H' → Same H H' → Grow Hf Hf' H → R H Hf' H' d v → Q v H'
theorem spF_imp {K : PySem.W.Frag} {R : Md} {F F' : List PyData → Option PyData} (h : ∀ ds d, F' ds = some d → F ds = some d) {vs : List V} {H : Hp} {Q : VK} {E : XK} (s : spF K R F' vs H Q E) : spF K R F vs H Q E := by
  obtain ⟨Hf, ds, d, sb, r, z, k⟩ := s
  exact ⟨Hf, ds, d, sb, r, h ds d z, k⟩
section
variable {X : Cx} {R : Md} {e : Expr} {es : List Expr} {fs : Nv → Option (List PyData)} {F : List PyData → Option PyData} {x : Str} {p pos : Pos} {j k : Nat}
def fCall (fs : Nv → Option (List PyData)) (F : List PyData → Option PyData) : Nv → Option PyData := fun env => (fs env).bind F
theorem c_call (mo : Bk R) (c : Cal X.prog X.w X.K X.mg X.base k x (spF X.K R F) []) (hr : Room j X.A) (hk : k ≤ j) (hg : Gl X x) (ha : PAf X (e :: es) fs) (hdb : (x == ("__debug__" : Str)) = false := by decide)
    (he : starEach (e :: es) X.env = (false, eval e X.env) :: starEach es X.env := by rfl) (hpl : (backTo pos (starEach es X.env)).any (·.1) = false := by rfl) : PE X (.Call (.Name x p) (e :: es) [] pos) (tX X.K R (fCall fs F)) :=
  pe_imp (pe_c c hr hk hg ha hdb he hpl) fun σ H Q ⟨B, Hf, env, d, S, z, q⟩ => by
    obtain ⟨ds, z1, z2⟩ := Option.bind_eq_some_iff.mp z
    refine ⟨B, Hf, env, ds, S, z1, fun vs Hf1 H1 S1 s1 g1 r1 => ?_⟩
    show spF X.K R F (vs ++ []) H1 Q C8.E0
    rw [List.append_nil]
    exact ⟨Hf1, ds, d, S1.sub, r1, z2, fun v Hf' H' sb s' g' r => q v Hf' H' (S1.grow sb s' g') (s1.trans s') (g1.trans s1 g') (mo.to s1 r)⟩
/-- the context of a def's body -/
abbrev cxB (P : Program) (w : World) (K : PySem.W.Frag) (mg : Str → Option Value) (base : Heap) (N : List Str) (x : Str) (scope : Scope) (f : Addr) (cdv : Value) (A : Around) (outer : List Env) (s : Shared) (H : Hp) (E : XK) : Cx := (cxOf C8.CX0 P w K mg base N x scope f cdv A outer s H E).nox
/-- the names' holdings at the entry -/
def startN (n : Nat) (ds : List PyData) : Nv := ds.map .fr ++ List.replicate (n - ds.length) .un
def runF (n m : Nat) (g : Sx) (ds : List PyData) : Option PyData := if Nat.beq ds.length m then (g (startN n ds)).bind fun o => match o with
  | .nx _ => some .none
  | .rt d => some d else none
def runO (n m : Nat) (g : Sx) (ds : List PyData) : Option PyData := if Nat.beq ds.length m then (g (startN n ds)).bind fun o => match o with
  | .nx _ => none
  | .rt d => some d else none
theorem start_ok {K : PySem.W.Frag} {Hf H : Hp} {N : List Str} {ds : List PyData} {vs : List V} (sb : Sub Hf H) (r : RpA K Hf ds vs) : StOk K H Hf (startN N.length ds) (L2.start N vs) H := by
  unfold startN L2.start
  refine ⟨sb, Same.refl H, by simp [r.length], fun i c ec => ?_, fun i j p d d' ne e1 => ?_⟩
  · rw [List.getElem?_append] at ec
    split at ec
    · rename_i hi
      rw [List.length_map] at hi
      rw [List.getElem?_map] at ec
      obtain ⟨d, e1, rfl⟩ := Option.map_eq_some_iff.mp ec
      obtain ⟨v, e2, rv⟩ := r.get e1
      refine ⟨v, ?_, rv⟩
      rw [List.getElem?_append_left (by rw [List.length_map, r.length]; exact hi), List.getElem?_map, e2]
      rfl
    · have z := List.eq_of_mem_replicate (List.mem_of_getElem? ec)
      subst z
      trivial
  · exfalso
    rw [List.getElem?_append] at e1
    split at e1
    · rw [List.getElem?_map] at e1
      obtain ⟨d, _, h⟩ := Option.map_eq_some_iff.mp e1
      cases h
    · have z := List.eq_of_mem_replicate (List.mem_of_getElem? e1)
      cases z
theorem fn_F {P : Program} {w : World} {K : PySem.W.Frag} {mg : Str → Option Value} {base : Heap} {params : Arguments} {body : List Stmt} {scope : Scope} {f : Addr} {fd : FuncData} {N ps : List Str} {k : Nat} {g : Sx} (F : FunD K x x params body scope [] [] f fd) (hm : mg x = some (.ref f)) (b : Binds K fd ps []) (S : FnScope N ps scope)
    (hb : ∀ (cdv : Value) (A : Around) (outer : List Env) (s : Shared) (H : Hp) (E : XK), Room k (cxB P w K mg base N x scope f cdv A outer s H E).A → PBl (cxB P w K mg base N x scope f cdv A outer s H E) (RF K) body g) : Cal P w K mg base (k + 1) x (spF K (RF K) (runF N.length ps.length g)) [] := by
  have len : ∀ vs H Q E, spF K (RF K) (runF N.length ps.length g) vs H Q E → vs.length = ps.length := fun vs H Q E ⟨Hf, ds, d, _, r, z, _⟩ => by
    unfold runF at z
    split at z
    · rename_i q
      rw [r.length]
      exact Nat.eq_of_beq_eq_true q
    · cases z
  refine ⟨f, fd, ps, [], F.ok S len (fun cdv A outer s H vs Q E hr h => ?_), hm, F.kp, b, .nil⟩
  refine ⟨_, PSs.nox (hb cdv A outer s H E hr), ?_⟩
  obtain ⟨Hf, ds, d, sb, r, z, k⟩ := h
  unfold runF at z
  split at z
  · obtain ⟨o, z1, z2⟩ := Option.bind_eq_some_iff.mp z
    refine ⟨H, Hf, _, o, start_ok sb r, z1, ?_⟩
    cases o with
    | nx e =>
      cases z2
      exact fun σ' Hf' H' S' g' => k .non Hf' H' S'.sub S'.base g' rfl
    | rt d =>
      cases z2
      exact fun v Hf' H' sb s' g' r => k v Hf' H' sb s' g' r
  · cases z
theorem fn_O {P : Program} {w : World} {K : PySem.W.Frag} {mg : Str → Option Value} {base : Heap} {params : Arguments} {body : List Stmt} {scope : Scope} {f : Addr} {fd : FuncData} {N ps : List Str} {k : Nat} {g : Sx} (F : FunD K x x params body scope [] [] f fd) (hm : mg x = some (.ref f)) (b : Binds K fd ps []) (S : FnScope N ps scope)
    (hb : ∀ (cdv : Value) (A : Around) (outer : List Env) (s : Shared) (H : Hp) (E : XK), Room k (cxB P w K mg base N x scope f cdv A outer s H E).A → PBl (cxB P w K mg base N x scope f cdv A outer s H E) (RO K) body g) : Cal P w K mg base (k + 1) x (spF K (RO K) (runO N.length ps.length g)) [] := by
  have len : ∀ vs H Q E, spF K (RO K) (runO N.length ps.length g) vs H Q E → vs.length = ps.length := fun vs H Q E ⟨Hf, ds, d, _, r, z, _⟩ => by
    unfold runO at z
    split at z
    · rename_i q
      rw [r.length]
      exact Nat.eq_of_beq_eq_true q
    · cases z
  refine ⟨f, fd, ps, [], F.ok S len (fun cdv A outer s H vs Q E hr h => ?_), hm, F.kp, b, .nil⟩
  refine ⟨_, PSs.nox (hb cdv A outer s H E hr), ?_⟩
  obtain ⟨Hf, ds, d, sb, r, z, k⟩ := h
  unfold runO at z
  split at z
  · obtain ⟨o, z1, z2⟩ := Option.bind_eq_some_iff.mp z
    refine ⟨H, Hf, _, o, start_ok sb r, z1, ?_⟩
    cases o with
    | nx e => cases z2
    | rt d =>
      cases z2
      exact fun v Hf' H' sb s' g' r => k v Hf' H' sb s' g' r
  · cases z
end
end Q7

-- part Ql
set_option Elab.async false
set_option linter.all false
set_option maxRecDepth 100000
/-! Ql: isinstance, dict of pairs, sorts. -/
namespace Q7
open PySem PySem.Spec PyProof.Rows L2

/-! ### isinstance -/
section
variable {X : Cx} {K : PySem.W.Frag} {B Hf H H0 : Hp} {env : Nv} {σ : L2.St} {v : V} {f : Nv → Option PyData} {a : Expr} {p p2 p3 pos : Pos}
theorem tyx_lst {q : Addr} {xs : List V} (h : SqL K H q xs) : TyX K H (.ref q) (.type "list") := by
  rcases h with (e | ⟨o, e⟩) | ⟨o, its, n, e, c, _⟩
  · exact .base (.lst e)
  · exact .base (.frz e)
  · exact .kList e c
theorem tyx_tup {q : Addr} {xs : List V} (h : SqT K H q xs) : TyX K H (.ref q) (.type "tuple") := by
  rcases h with (e | ⟨o, e⟩) | ⟨o, its, n, e, c, _⟩
  · exact .base (.tup e)
  · exact .fTuple e
  · exact .kTuple e c
/-- the kind's name, of the kinds that are asked -/
def kdT : PyData → Option String
  | .int _ => some "int"
  | .str _ => some "str"
  | .tuple _ => some "tuple"
  | .list _ => some "list"
  | _ => none
theorem rq_kd {d : PyData} {t : String} (S : StOk K B Hf env σ H) (r : RQ K H0 Hf H d v) (h : kdT d = some t) : TyX K H v (.type t) := by
  cases d with
  | int i =>
    cases h
    rw [rq_int r]
    exact .base (.int i)
  | str i =>
    cases h
    rw [rq_sc (x := .str i) rfl r]
    exact .base (.str i)
  | tuple ds =>
    cases h
    obtain ⟨q, xs, rfl, hq, _⟩ := rq_tup S r
    exact tyx_tup hq
  | list ds =>
    cases h
    obtain ⟨q, xs, rfl, hq, _⟩ := rq_lst S r
    exact tyx_lst hq
  | none => cases h
  | bool _ => cases h
  | dict _ => cases h
/-- isinstance(x, T): only the kinds that come -/
def isI : PyData → Option PyData
  | .int _ => some (.bool true)
  | _ => none
def isBo : PyData → Option PyData
  | .int _ => some (.bool false)
  | _ => none
def isS : PyData → Option PyData
  | .str _ => some (.bool true)
  | _ => none
def isT : PyData → Option PyData
  | .tuple _ => some (.bool true)
  | _ => none
def isLT : PyData → Option PyData
  | .list _ => some (.bool true)
  | .tuple _ => some (.bool true)
  | _ => none
theorem c_isi {g : PyData → Option PyData} {x : Str} {T : String} (hgI : Gl X "isinstance") (hmI : X.mg "isinstance" = none) (hg : Gl X x) (hm : X.mg x = none) (hv : bootBuiltins x = some (.type T)) (ha : PQ X a f)
    (ok : ∀ d d', g d = some d' → ∃ t b, kdT d = some t ∧ kitB t T = some b ∧ d' = .bool b) (hn : x ≠ "__name__" := by decide) (hdb : (x == ("__debug__" : Str)) = false := by decide)
    (hs : starEach [a, .Name x p2] X.env = (false, eval a X.env) :: starEach [.Name x p2] X.env := by rfl) (hpl : (backTo pos (starEach [.Name x p2] X.env)).any (·.1) = false := by rfl) :
    PF X (.Call (.Name "isinstance" p) [a, .Name x p2] [] pos) (u1 f g) :=
  Le.pe (t := tCB (rIsi X.K) (tCons (tX X.K (RQ X.K) f) (tCons (tC (.ty T)) tNil))) (le1 (g := g) (R1 := RQ X.K) (r := fun x H Q => rIsi X.K [x, .ty T] H Q) bkF fun B Hf env σ H0 H x d1 d Q S r1 z k => by
    obtain ⟨t, b, h1, h2, rfl⟩ := ok d1 d z
    exact ⟨x, _, .type t, .type T, b, rfl, .ty T, rq_kd S r1 h1, kit_ty h2, opw_bl S k⟩)
  (pe_callB call_isi hgI hmI (by decide +kernel) (pa_cons ha (pa_cons (pe_bltn hg hm hv (show RelV (.ty T) (.type T) from rfl) hn hdb) pa_nil) hs) (he := hs) (hpl := hpl))
theorem c_isInt (hgI : Gl X "isinstance") (hmI : X.mg "isinstance" = none) (hg : Gl X "int") (hm : X.mg "int" = none) (ha : PQ X a f)
    (hs : starEach [a, .Name "int" p2] X.env = (false, eval a X.env) :: starEach [.Name "int" p2] X.env := by rfl) (hpl : (backTo pos (starEach [.Name "int" p2] X.env)).any (·.1) = false := by rfl) : PF X (.Call (.Name "isinstance" p) [a, .Name "int" p2] [] pos) (u1 f isI) :=
  c_isi (T := "int") hgI hmI hg hm (by decide +kernel) ha (fun d d' h => by
    cases d <;> first | exact ⟨_, true, rfl, by decide +kernel, (Option.some.inj h).symm⟩ | cases h) (hs := hs) (hpl := hpl)
theorem c_isBool (hgI : Gl X "isinstance") (hmI : X.mg "isinstance" = none) (hg : Gl X "bool") (hm : X.mg "bool" = none) (ha : PQ X a f)
    (hs : starEach [a, .Name "bool" p2] X.env = (false, eval a X.env) :: starEach [.Name "bool" p2] X.env := by rfl) (hpl : (backTo pos (starEach [.Name "bool" p2] X.env)).any (·.1) = false := by rfl) : PF X (.Call (.Name "isinstance" p) [a, .Name "bool" p2] [] pos) (u1 f isBo) :=
  c_isi (T := "bool") hgI hmI hg hm (by decide +kernel) ha (fun d d' h => by
    cases d <;> first | exact ⟨_, false, rfl, by decide +kernel, (Option.some.inj h).symm⟩ | cases h) (hs := hs) (hpl := hpl)
theorem c_isStr (hgI : Gl X "isinstance") (hmI : X.mg "isinstance" = none) (hg : Gl X "str") (hm : X.mg "str" = none) (ha : PQ X a f)
    (hs : starEach [a, .Name "str" p2] X.env = (false, eval a X.env) :: starEach [.Name "str" p2] X.env := by rfl) (hpl : (backTo pos (starEach [.Name "str" p2] X.env)).any (·.1) = false := by rfl) : PF X (.Call (.Name "isinstance" p) [a, .Name "str" p2] [] pos) (u1 f isS) :=
  c_isi (T := "str") hgI hmI hg hm (by decide +kernel) ha (fun d d' h => by
    cases d <;> first | exact ⟨_, true, rfl, by decide +kernel, (Option.some.inj h).symm⟩ | cases h) (hs := hs) (hpl := hpl)
theorem c_isTup (hgI : Gl X "isinstance") (hmI : X.mg "isinstance" = none) (hg : Gl X "tuple") (hm : X.mg "tuple" = none) (ha : PQ X a f)
    (hs : starEach [a, .Name "tuple" p2] X.env = (false, eval a X.env) :: starEach [.Name "tuple" p2] X.env := by rfl) (hpl : (backTo pos (starEach [.Name "tuple" p2] X.env)).any (·.1) = false := by rfl) : PF X (.Call (.Name "isinstance" p) [a, .Name "tuple" p2] [] pos) (u1 f isT) :=
  c_isi (T := "tuple") hgI hmI hg hm (by decide +kernel) ha (fun d d' h => by
    cases d <;> first | exact ⟨_, true, rfl, by decide +kernel, (Option.some.inj h).symm⟩ | cases h) (hs := hs) (hpl := hpl)
/-- isinstance(x, (list, tuple)) -/
theorem c_isLT {kt : Nat} {pt : Pos} (hgI : Gl X "isinstance") (hmI : X.mg "isinstance" = none) (hgL : Gl X "list") (hmL : X.mg "list" = none) (hgT : Gl X "tuple") (hmT : X.mg "tuple" = none) (ha : PQ X a f)
    (hs : starEach [a, .Tuple [.Name "list" p2, .Name "tuple" p3] kt pt] X.env = (false, eval a X.env) :: starEach [.Tuple [.Name "list" p2, .Name "tuple" p3] kt pt] X.env := by rfl)
    (hpl : (backTo pos (starEach [.Tuple [.Name "list" p2, .Name "tuple" p3] kt pt] X.env)).any (·.1) = false := by rfl) : PF X (.Call (.Name "isinstance" p) [a, .Tuple [.Name "list" p2, .Name "tuple" p3] kt pt] [] pos) (u1 f isLT) :=
  Le.pe (t := tCB (rIsiT X.K) (tCons (tX X.K (RQ X.K) f) (tCons (tTup (tCons (tC (.ty "list")) (tCons (tC (.ty "tuple")) tNil))) tNil)))
    (le1 (g := isLT) (R1 := RQ X.K) (r := fun x H Q => (2 ≤ sizeLine) ∧ ∀ T, H T = none → rIsiT X.K [x, .ref T] (upd H T (.tup [.ty "list", .ty "tuple"])) Q) bkF fun B Hf env σ H0 H x d1 d Q S r1 z k => by
      refine ⟨by decide, fun T hT => ?_⟩
      have fin : ∀ b, d = .bool b → Q (.bl b) (upd H T (.tup [.ty "list", .ty "tuple"])) := fun b e => by
        subst e
        exact k _ Hf _ (S.new hT) (same_new hT) .refl rfl
      have S2 := S.new (o := .tup [.ty "list", .ty "tuple"]) hT
      have r2 : RQ X.K H0 Hf (upd H T (.tup [.ty "list", .ty "tuple"])) d1 x := (fwQ.to (H0' := H0) (same_new hT) .refl r1)
      have two : Paired ClsV [.ty "list", .ty "tuple"] [.type "list", .type "tuple"] := .cons (.ty _) (.cons (.ty _) .nil)
      cases d1 with
      | list ds => exact ⟨x, T, _, .type "list", _, true, rfl, upd_same, two, rq_kd S2 r2 rfl, kitAny_cons (b := true) (kit_ty (by decide +kernel)) (fun h => by cases h) fun _ => rfl, fin true (Option.some.inj z).symm⟩
      | tuple ds => exact ⟨x, T, _, .type "tuple", _, true, rfl, upd_same, two, rq_kd S2 r2 rfl, kitAny_cons (b := false) (kit_ty (by decide +kernel)) (fun _ => kitAny_cons (b := true) (kit_ty (by decide +kernel)) (fun h => by cases h) fun _ => rfl) (fun h => by cases h), fin true (Option.some.inj z).symm⟩
      | none => cases z
      | bool _ => cases z
      | int _ => cases z
      | str _ => cases z
      | dict _ => cases z)
  (pe_callB call_isiT hgI hmI (by decide +kernel) (pa_cons ha (pa_cons (pe_tup (pa_cons (pe_bltn hgL hmL (by decide +kernel) (show RelV (.ty "list") (.type "list") from rfl)) (pa_cons (pe_bltn hgT hmT (by decide +kernel) (show RelV (.ty "tuple") (.type "tuple") from rfl)) pa_nil))) pa_nil) hs) (he := hs) (hpl := hpl))
end

/-! ### dict([(k, v), ..]) -/
def dctL : List (PyData × PyData) → List PyData → Option (List (PyData × PyData))
  | es, [] => some es
  | es, .tuple [.int i, d] :: r => dctL (dPut es i d) r
  | _, _ :: _ => none
def gDict : PyData → Option PyData
  | .list ds => (dctL [] ds).map .dict
  | _ => none
theorem dctL_cons {es rs : List (PyData × PyData)} {d : PyData} {r : List PyData} (h : dctL es (d :: r) = some rs) : ∃ i e, d = .tuple [.int i, e] ∧ dctL (dPut es i e) r = some rs := by
  unfold dctL at h
  split at h
  · cases ‹_ :: _ = []›
  · rename_i heq
    cases heq
    exact ⟨_, _, rfl, h⟩
  · cases h
theorem dct_vals {K : PySem.W.Frag} {Hf H : Hp} (sb : Sub Hf H) : ∀ (ds : List PyData) (es rs : List (PyData × PyData)) (xs : List V) (kvs : List (Key × V)), dctL es ds = some rs → RpA K Hf ds xs → RpK K Hf es kvs →
    ∃ (ps : List Addr) (more : List (Key × V)), xs = ps.map V.ref ∧ Paired (fun p kv => SqT K H p [kV kv.1, kv.2]) ps more ∧ RpK K Hf rs (mergeK kvs more)
  | [], es, rs, xs, kvs, h, r, rk => by
    cases h
    rw [show xs = [] from r]
    exact ⟨[], [], rfl, .nil, rk⟩
  | d :: ds, es, rs, xs, kvs, h, r, rk => by
    obtain ⟨x, ys, rfl, rx, ry⟩ := r
    obtain ⟨i, e, rfl, h2⟩ := dctL_cons h
    obtain ⟨q, zs, rfl, hq, u1', us, rfl, ri, u2', us2, rfl, re, h3⟩ := rx
    rw [show us2 = [] from h3] at hq
    rw [show u1' = V.int i from ri] at hq
    obtain ⟨ps, more, rfl, hp, hk⟩ := dct_vals sb ds _ rs ys _ h2 ry (rpK_put re rk)
    exact ⟨q :: ps, (Sum.inl i, u2') :: more, rfl, .cons (sb.tup hq) hp, hk⟩
section
variable {X : Cx} {f : Nv → Option PyData} {a : Expr} {p p2 p3 pos : Pos}
theorem c_dict (hc : X.calm = true) (hg : Gl X "dict") (hm : X.mg "dict" = none) (ha : PQ X a f) (hs : starEach [a] X.env = (false, eval a X.env) :: starEach [] X.env := by rfl) (hpl : (backTo pos (starEach [] X.env)).any (·.1) = false := by rfl) : PO' X (.Call (.Name "dict" p) [a] [] pos) (u1 f gDict) :=
  c_T1 bkO (call_dictP hc) hg hm (by decide +kernel) ha (fun B Hf env σ H0 H x d1 d Q S r1 z k => by
    obtain ⟨ds, rfl⟩ : ∃ i, d1 = .list i := by
      cases d1 <;> first | exact ⟨_, rfl⟩ | cases z
    obtain ⟨rs, z1, rfl⟩ := Option.map_eq_some_iff.mp (show (dctL [] ds).map .dict = some d from z)
    obtain ⟨q, xs, rfl, hq, rk⟩ := rq_lst S r1
    obtain ⟨ps, more, rfl, hp, hk⟩ := dct_vals S.sub ds [] rs xs [] z1 rk rfl
    exact ⟨q, ps, more, rfl, hq, hp, fun l hl => opw_dct S hk k hl⟩) (hs := hs) (hpl := hpl)
end

/-! ### sorted, whole numbers -/
def insI (i : Int) : List Int → List Int
  | [] => [i]
  | j :: r => if decide (i ≤ j) then i :: j :: r else j :: insI i r
def sortI : List Int → List Int
  | [] => []
  | i :: r => insI i (sortI r)
theorem insI_perm (i : Int) : ∀ r : List Int, (insI i r).Perm (i :: r)
  | [] => .refl _
  | j :: r => by
    unfold insI
    split
    · exact .refl _
    · exact ((insI_perm i r).cons j).trans (.swap i j r)
theorem sortI_perm : ∀ r : List Int, (sortI r).Perm r
  | [] => .refl _
  | i :: r => (insI_perm i _).trans ((sortI_perm r).cons i)
theorem insI_ord (i : Int) : ∀ r : List Int, r.Pairwise (· ≤ ·) → (insI i r).Pairwise (· ≤ ·)
  | [], _ => by simp [insI]
  | j :: r, h => by
    obtain ⟨h1, h2⟩ := List.pairwise_cons.mp h
    unfold insI
    split
    · rename_i q
      have q := of_decide_eq_true q
      exact List.pairwise_cons.mpr ⟨fun y hy => by
        rcases List.mem_cons.mp hy with rfl | hy
        · exact q
        · exact Int.le_trans q (h1 y hy), h⟩
    · rename_i q
      have q : ¬ i ≤ j := fun w => q (decide_eq_true w)
      refine List.pairwise_cons.mpr ⟨fun y hy => ?_, insI_ord i r h2⟩
      rcases List.mem_cons.mp ((insI_perm i r).mem_iff.mp hy) with rfl | hy
      · omega
      · exact h1 y hy
theorem sortI_ord : ∀ r : List Int, (sortI r).Pairwise (· ≤ ·)
  | [] => .nil
  | i :: r => insI_ord i _ (sortI_ord r)
theorem sortI_uniq {ns ms : List Int} (hp : ms.Perm ns) (ho : ms.Pairwise (· ≤ ·)) : ms = sortI ns :=
  List.Perm.eq_of_pairwise (fun a b _ _ h1 h2 => Int.le_antisymm h1 h2) ho (sortI_ord ns) (hp.trans (sortI_perm ns).symm)
def gSortI : PyData → Option PyData := onIs fun ns => some (.list ((sortI ns).map .int))
/-- sorted(d), d a dict with whole numbers as keys -/
def gSortK : PyData → Option PyData
  | .dict es => if Nat.blt es.length 64 then (ints? (keysD es)).map fun ns => .list ((sortI ns).map .int) else none
  | _ => none
theorem rpK_ints {K : PySem.W.Frag} {H : Hp} : ∀ {es : List (PyData × PyData)} {kvs : List (Key × V)} {ns : List Int}, RpK K H es kvs → ints? (keysD es) = some ns → kvs.map (·.1) = ns.map Sum.inl
  | [], kvs, ns, h, z => by
    cases z
    rw [show kvs = [] from h]
    rfl
  | (k, d) :: es, kvs, ns, ⟨i, x, r, e1, e2, h, q⟩, z => by
    subst e1 e2
    obtain ⟨ms, h1, rfl⟩ := Option.map_eq_some_iff.mp (show (ints? (keysD es)).map (i :: ·) = some ns from z)
    rw [List.map_cons, List.map_cons, rpK_ints q h1]
section
variable {X : Cx} {f : Nv → Option PyData} {a : Expr} {p p2 p3 pos : Pos}
theorem boot_sorted : bootBuiltins ("sorted" : Str) = some (.builtin "sorted") := by decide +kernel
theorem c_sortI (hg : Gl X "sorted") (hm : X.mg "sorted" = none) (ha : PQ X a f) (hs : starEach [a] X.env = (false, eval a X.env) :: starEach [] X.env := by rfl) (hpl : (backTo pos (starEach [] X.env)).any (·.1) = false := by rfl) : PO' X (.Call (.Name "sorted" p) [a] [] pos) (u1 f gSortI) :=
  c_B1 bkO cr_sortedI hg hm boot_sorted ha (fun B Hf env σ H0 H x d1 d Q S r1 z k => by
    obtain ⟨ns, rfl, z2⟩ := onIs_some (g := fun ns => some (.list ((sortI ns).map .int))) z
    cases z2
    obtain ⟨q, xs, rfl, hq, rk⟩ := rq_lst S r1
    rw [rk.ints] at hq
    refine ⟨q, ns, rfl, hq, fun ms l hp ho hl => ?_⟩
    rw [sortI_uniq hp ho]
    exact opw_lst S (RpA.of_ints _) k hl) (hs := hs) (hpl := hpl)
theorem c_sortK (hc : X.calm = true) (hg : Gl X "sorted") (hm : X.mg "sorted" = none) (ha : PQ X a f) (hs : starEach [a] X.env = (false, eval a X.env) :: starEach [] X.env := by rfl) (hpl : (backTo pos (starEach [] X.env)).any (·.1) = false := by rfl) : PO' X (.Call (.Name "sorted" p) [a] [] pos) (u1 f gSortK) :=
  c_B1 bkO (call_sortedDI hc) hg hm boot_sorted ha (fun B Hf env σ H0 H x d1 d Q S r1 z k => by
    obtain ⟨es, rfl⟩ : ∃ i, d1 = .dict i := by
      cases d1 <;> first | exact ⟨_, rfl⟩ | cases z
    have z : (if Nat.blt es.length 64 then (ints? (keysD es)).map fun ns => PyData.list ((sortI ns).map .int) else none) = some d := z
    split at z
    · rename_i hl64
      obtain ⟨ns, z1, rfl⟩ := Option.map_eq_some_iff.mp z
      obtain ⟨q, kvs, rfl, hq, rk⟩ := rq_dct S r1
      have hn : ns.length = es.length := by
        have e := congrArg List.length (ints?_some z1)
        rw [List.length_map] at e
        rw [← e]
        have := congrArg List.length (rpK_ints rk z1)
        rw [List.length_map, List.length_map, rk.length] at this
        omega
      refine ⟨q, kvs, ns, rfl, hq, rpK_ints rk z1, by rw [hn]; exact Nat.le_of_ble_eq_true hl64, fun ms l hp ho hl => ?_⟩
      rw [sortI_uniq hp ho]
      exact opw_lst S (RpA.of_ints _) k hl
    · cases z) (hs := hs) (hpl := hpl)
end
end Q7

-- part Qm
set_option Elab.async false
set_option linter.all false
set_option maxRecDepth 100000
/-! Qm: sorted lists of data. -/
namespace Q7
open PySem PySem.Spec PyProof.Rows L2
open PySem.W (dataLt dataLe alike AllAlike Sortable EachIs)

def insD (d : PyData) : List PyData → List PyData
  | [] => [d]
  | e :: r => if dataLt e d then e :: insD d r else d :: e :: r
def sortD : List PyData → List PyData
  | [] => []
  | d :: r => insD d (sortD r)
theorem insD_perm (i : PyData) : ∀ r : List PyData, (insD i r).Perm (i :: r)
  | [] => .refl _
  | j :: r => by
    unfold insD
    split
    · exact ((insD_perm i r).cons j).trans (.swap i j r)
    · exact .refl _
theorem sortD_perm : ∀ r : List PyData, (sortD r).Perm r
  | [] => .refl _
  | i :: r => (insD_perm i _).trans ((sortD_perm r).cons i)
/-- each is less than all behind it -/
def upD : List PyData → Bool
  | [] => true
  | d :: r => r.all (dataLt d) && upD r
theorem upD_pw : ∀ {r : List PyData}, upD r = true → r.Pairwise fun a b => dataLt a b = true
  | [], _ => .nil
  | d :: r, h => by
    obtain ⟨h1, h2⟩ := Bool.and_eq_true_iff.mp (show (r.all (dataLt d) && upD r) = true from h)
    exact List.pairwise_cons.mpr ⟨fun y hy => List.all_eq_true.mp h1 y hy, upD_pw h2⟩
def tupsD (ds : List PyData) : Bool := ds.all fun d => match d with
  | .tuple (_ :: _) => true
  | _ => false
def alikeD (ds : List PyData) : Bool := ds.all fun a => ds.all fun b => alike a b
def depthD (ds : List PyData) : Bool := ds.all fun d => Nat.ble d.depth 60
def okSort (ds : List PyData) : Bool := tupsD ds && (alikeD ds && (depthD ds && (Nat.ble ds.length 100000 && PyData.canLayAll0 ds)))
theorem pw_mem {α : Type} {R : α → α → Prop} {x y : α} : ∀ {l : List α}, l.Pairwise R → x ∈ l → y ∈ l → x = y ∨ R x y ∨ R y x
  | [], _, hx, _ => by cases hx
  | z :: l, h, hx, hy => by
    obtain ⟨h1, h2⟩ := List.pairwise_cons.mp h
    rcases List.mem_cons.mp hx with ex | hx2
    · rcases List.mem_cons.mp hy with ey | hy2
      · exact .inl (ex.trans ey.symm)
      · exact .inr (.inl (ex ▸ h1 y hy2))
    · rcases List.mem_cons.mp hy with ey | hy2
      · exact .inr (.inr (ey ▸ h1 x hx2))
      · exact pw_mem h2 hx2 hy2
theorem sort_eq {ds : List PyData} (h : upD (sortD ds) = true) : ds.mergeSort (dataLe false fun d => d) = sortD ds := by
  have t := PySem.W.sortLe_total (listOrd itemOrd) false fun d : PyData => PySem.W.keyToks d
  have hp := upD_pw h
  have le_of : ∀ a b : PyData, dataLe false (fun d => d) a b = true ↔ dataLt b a = false := fun a b => by
    show (!dataLt b a) = true ↔ _
    rw [Bool.not_eq_true']
  have asym : ∀ a b : PyData, dataLt a b = true → dataLt b a = false := fun a b q => (listOrd itemOrd).klt_asymm q
  refine List.Perm.eq_of_pairwise (le := fun a b => dataLe false (fun d => d) a b = true) (fun a b ha hb h1 h2 => ?_) (List.pairwise_mergeSort (fun a b c => t.trans a b c) (fun a b => Bool.or_eq_true_iff.mpr (t.total a b)) ds) (hp.imp fun {a b} q => (le_of a b).mpr (asym a b q)) ((List.mergeSort_perm _ _).trans (sortD_perm ds).symm)
  · have hm : ∀ x y : PyData, x ∈ sortD ds → y ∈ sortD ds → x = y ∨ dataLt x y = true ∨ dataLt y x = true := fun x y hx hy => by
      exact pw_mem hp hx hy
    have ha2 : a ∈ sortD ds := (sortD_perm ds).mem_iff.mpr ((List.mergeSort_perm _ _).mem_iff.mp ha)
    rcases hm a b ha2 hb with e | e | e
    · exact e
    · rw [(le_of b a).mp h2] at e
      cases e
    · rw [(le_of a b).mp h1] at e
      cases e

/-! ### the call -/
theorem zip_snd {α β : Type} : ∀ {xs : List α} {ds : List β}, xs.length = ds.length → (xs.zip ds).map Prod.snd = ds
  | [], [], _ => rfl
  | _ :: xs, _ :: ds, h => by
    rw [List.zip_cons_cons, List.map_cons, zip_snd (Nat.succ.inj h)]
theorem each_rel {xs : List V} {us : List Value} {ds : List PyData} (rv : Vals xs us) (h : xs.length = ds.length) : EachIs (fun (u : Value) (b : V × PyData) => RelV b.1 u) us (xs.zip ds) := by
  induction rv generalizing ds with
  | nil => exact .nil
  | cons r _ ih =>
    cases ds with
    | nil => cases h
    | cons d ds => exact .cons r (ih (Nat.succ.inj h))
theorem each_reads {X : Cx} {pins : List (Addr × Obj)} {σ : L2.St} {H : Hp} {s : Shared} (I : Inv X pins σ H s) : ∀ {xs : List V} {us : List Value} {ds : List PyData}, Vals xs us → DpAll X.K H xs ds → EachIs (fun (u : Value) (b : V × PyData) => ∃ as, Reads s.heap u b.2 as) us (xs.zip ds)
  | _, _, _, .nil, .nil => .nil
  | _, _, _, .cons r rv, .cons h1 h2 => .cons (Dp.reads I _ _ _ h1 r) (each_reads I rv h2)
theorem vals_out {out : List Value} {l : List (V × PyData)} (e : EachIs (fun (u : Value) (b : V × PyData) => RelV b.1 u) out l) : Vals (l.map Prod.fst) out := by
  induction e with
  | nil => exact .nil
  | cons r _ ih => exact .cons r ih
theorem dpAll_len {K : PySem.W.Frag} {H : Hp} : ∀ {xs : List V} {ds : List PyData}, DpAll K H xs ds → xs.length = ds.length
  | _, _, .nil => rfl
  | _, _, .cons _ h => by rw [List.length_cons, List.length_cons, dpAll_len h]
def rSortDt (K : PySem.W.Frag) : List V → Hp → VK → Prop := fun vs H Q => ∃ (a : Addr) (xs : List V) (ds : List PyData), vs = [.ref a] ∧ SqL K H a xs ∧ DpAll K H xs ds ∧ okSort ds = true ∧ upD (sortD ds) = true ∧
  ∀ (l : List (V × PyData)) (p : Addr), l.Perm (xs.zip ds) → l.map Prod.snd = sortD ds → H p = none → Q (.ref p) (upd H p (.lst (l.map Prod.fst)))
theorem ok_sort {ds : List PyData} (h : okSort ds = true) : AllAlike ds ∧ Sortable ds ∧ (∀ d ∈ ds, d.depth ≤ 60) ∧ ds.length ≤ 100000 ∧ PyData.canLayAll0 ds = true := by
  unfold okSort tupsD alikeD depthD at h
  simp only [Bool.and_eq_true, List.all_eq_true] at h
  obtain ⟨h1, h2, h3, h4, h5⟩ := h
  refine ⟨fun d hd e he => h2 d hd e he, .inl fun d hd => ?_, fun d hd => Nat.le_of_ble_eq_true (h3 d hd), Nat.le_of_ble_eq_true h4, h5⟩
  have q := h1 d hd
  split at q
  · exact ⟨_, _, rfl⟩
  · cases q
theorem cr_sortDt {X : Cx} (hu : X.A.units + 65 < cLine) : CallR X (.builtin "sorted") (rSortDt X.K) := by
  intro pins s σ H vs us Q I r h
  obtain ⟨a, xs, ds, rfl, hs, hd, ok, up, q⟩ := h
  obtain ⟨its, rv, hl, hz⟩ := I.list hs
  rw [Vals.ref1 r]
  obtain ⟨k1, k2, k3, k4, _⟩ := ok_sort ok
  have el := dpAll_len hd
  have es := zip_snd (α := V) el
  refine PySem.W.sorted_data (bs := xs.zip ds) (enc := Prod.snd) hl.isList (each_rel rv el) (each_reads I rv hd) (by rw [es]; exact k1) (by rw [es]; exact k2) (by rw [List.length_zip, ← el, Nat.min_self]; exact hz) (fun b hb => ?_) fun out ho eo => ?_
  · have := k3 b.2 (by rw [← es]; exact List.mem_map.mpr ⟨b, hb, rfl⟩)
    have hu2 : X.A.units + 65 < cLine := hu
    omega
  · obtain ⟨ep, he'⟩ := PyProof.Rows.sortedAll_at s.heap its out.toArray
    have hlen : (((xs.zip ds).mergeSort (dataLe false Prod.snd)).map Prod.fst).length ≤ sizeLine := by
      rw [List.length_map, (List.mergeSort_perm _ _).length_eq, List.length_zip, ← el, Nat.min_self]
      exact hz
    refine ⟨.ref _, upd H (s.heap.objs.size + 1) (.lst (((xs.zip ds).mergeSort (dataLe false Prod.snd)).map Prod.fst)), I.laid (t' := s.toks) (fun _ _ => PyProof.Rows.sortedAll_old) (Nat.le_succ _) ⟨hlen, out, ep, vals_out eo, he'⟩, rfl, q _ _ (List.mergeSort_perm _ _) ?_ (I.hok.fresh (Nat.le_succ _))⟩
    exact (PySem.W.sort_maps (r := dataLe false Prod.snd) (s := dataLe false fun d : PyData => d) (Prod.snd : V × PyData → PyData) (fun a _ b _ => rfl)).trans (by rw [es, sort_eq up])
def gSortD : PyData → Option PyData
  | .list ds => if okSort ds && upD (sortD ds) then some (.list (sortD ds)) else none
  | _ => none
theorem rpA_of {K : PySem.W.Frag} {H : Hp} : ∀ {l : List (V × PyData)}, (∀ b ∈ l, Rp K H b.2 b.1) → RpA K H (l.map Prod.snd) (l.map Prod.fst)
  | [], _ => rfl
  | b :: l, h => .cons (h b List.mem_cons_self) (rpA_of fun c hc => h c (List.mem_cons_of_mem _ hc))
theorem rpA_zip {K : PySem.W.Frag} {H : Hp} : ∀ {ds : List PyData} {xs : List V}, RpA K H ds xs → ∀ b ∈ xs.zip ds, Rp K H b.2 b.1
  | [], xs, h, b, hb => by
    rw [show xs = [] from h] at hb
    cases hb
  | d :: ds, _, ⟨x, ys, rfl, rx, ry⟩, b, hb => by
    rw [List.zip_cons_cons] at hb
    rcases List.mem_cons.mp hb with rfl | hb
    · exact rx
    · exact rpA_zip ry b hb
section
variable {X : Cx} {f : Nv → Option PyData} {a : Expr} {p pos : Pos}
theorem c_sortD (hu : X.A.units + 65 < cLine) (hg : Gl X "sorted") (hm : X.mg "sorted" = none) (ha : PQ X a f) (hs : starEach [a] X.env = (false, eval a X.env) :: starEach [] X.env := by rfl) (hpl : (backTo pos (starEach [] X.env)).any (·.1) = false := by rfl) : PO' X (.Call (.Name "sorted" p) [a] [] pos) (u1 f gSortD) :=
  c_B1 bkO (cr_sortDt hu) hg hm boot_sorted ha (fun B Hf env σ H0 H x d1 d Q S r1 z k => by
    obtain ⟨ds, rfl⟩ : ∃ i, d1 = .list i := by
      cases d1 <;> first | exact ⟨_, rfl⟩ | cases z
    have z : (if okSort ds && upD (sortD ds) then some (PyData.list (sortD ds)) else none) = some d := z
    split at z
    · rename_i hh
      obtain ⟨ok, up⟩ := Bool.and_eq_true_iff.mp hh
      cases z
      obtain ⟨q, xs, rfl, hq, rk⟩ := rq_lst S r1
      refine ⟨q, xs, ds, rfl, hq, rp_dpA S.sub ds xs (ok_sort ok).2.2.2.2 rk, ok, up, fun l p hp hm hl => ?_⟩
      refine opw_lst S ?_ k hl
      rw [← hm]
      exact rpA_of fun b hb => rpA_zip rk b (hp.mem_iff.mp hb)
    · cases z) (hs := hs) (hpl := hpl)
end
end Q7

-- part Qn
set_option Elab.async false
set_option linter.all false
set_option maxRecDepth 100000
/-! Qn: short forms that the printed derivations use. -/
namespace Q7
open PySem PySem.Spec PyProof.Rows L2

section
variable {X : Cx} {R : Md} {st : Stmt} {g : Sx} {e a b c it tg : Expr} {f f1 f2 f3 : Nv → Option PyData} {i : Nat} {x : Str} {p pos pos' : Pos}
theorem s_setF (hN : X.N.Nodup) (hi : X.N[i]? = some x) (hx : Loc X.env.scope x) (he : PF X e f) (hs : swapsWith e (some (.Name x pos')) pos.line X.env = pure false := by rfl)
    (hf : X.fn x = true ∨ X.env.scope.names.lookup x = some .local := by first | exact .inl rfl | exact .inr rfl | assumption) : PSr X R (.Assign [.Name x pos'] e pos) (sSet i f) := ps_imp (ps_set hN hi hx he hs hf) (le_set le_rfl)
theorem s_setO (hN : X.N.Nodup) (hi : X.N[i]? = some x) (hx : Loc X.env.scope x) (he : PO' X e f) (hs : swapsWith e (some (.Name x pos')) pos.line X.env = pure false := by rfl)
    (hf : X.fn x = true ∨ X.env.scope.names.lookup x = some .local := by first | exact .inl rfl | exact .inr rfl | assumption) : PSr X R (.Assign [.Name x pos'] e pos) (sSetO i f) := ps_imp (ps_set hN hi hx he hs hf) (le_setO le_rfl)
/-- frozen behind the statement -/
def sFzA (i : Nat) (g : Sx) : Sx := fun env => (g env).map fun o => match o with
  | .nx e => .nx (fz i e)
  | .rt d => .rt d
theorem s_fzA (h : PSr X R st g) : PSr X R st (sFzA i g) := ps_imp h fun D σ H ⟨B, Hf, env, out, S, z, k⟩ => by
  obtain ⟨o, z1, rfl⟩ := Option.map_eq_some_iff.mp z
  cases o with
  | nx e =>
    refine ⟨B, Hf, env, _, S, z1, fun σ' Hf' H' S' g' => ?_⟩
    obtain ⟨Hf2, S2, g2⟩ := fz_ok i S'
    exact k σ' Hf2 H' S2 (g'.tr g2)
  | rt d => exact ⟨B, Hf, env, _, S, z1, k⟩
/-- a list or a tuple -/
def sqD : PyData → Option (List PyData)
  | .list ds => some ds
  | .tuple ds => some ds
  | _ => none
def sqOf (f : Nv → Option PyData) : Nv → Option (List PyData) := fun env => (f env).bind sqD
theorem i_sq (h : PF X it f) : PIr X tg it (sqOf f) := ⟨fun pins s σ H R I ⟨B, Hf, env, ds, S, z, k⟩ => by
  obtain ⟨d, z1, z2⟩ := Option.bind_eq_some_iff.mp z
  cases d with
  | list es =>
    cases z2
    exact (i_lst h).run pins s σ H R I ⟨B, Hf, env, _, S, by show (f env).bind _ = _; rw [z1]; rfl, k⟩
  | tuple es =>
    cases z2
    exact (i_tup h).run pins s σ H R I ⟨B, Hf, env, _, S, by show (f env).bind _ = _; rw [z1]; rfl, k⟩
  | none => cases z2
  | bool _ => cases z2
  | int _ => cases z2
  | str _ => cases z2
  | dict _ => cases z2⟩
/-! chains -/
abbrev pLt : Int → Int → Bool := fun i j => decide (i < j)
abbrev pLe : Int → Int → Bool := fun i j => decide (i ≤ j)
theorem c_ch {op op' : CmpOp} {p q : Int → Int → Bool} (ho : OpR X (compareOp op) (rI0 fun i j => .bl (p i j))) (ho' : OpR X (compareOp op') (rI0 fun i j => .bl (q i j))) (ha : PQ X a f1) (hb : PQ X b f2) (hc : PQ X c f3)
    (hm : lastMarks [op, op'] [b, c] = false := by with_unfolding_all rfl) : PF X (.Compare a [op, op'] [b, c] pos) (ch3 f1 f2 f3 p q) := le_chain.pe (pe_chain ho ho' ha hb hc hm)
theorem b_ch {op op' : CmpOp} {p q : Int → Int → Bool} (ho : OpR X (compareOp op) (rI0 fun i j => .bl (p i j))) (ho' : OpR X (compareOp op') (rI0 fun i j => .bl (q i j))) (ha : PQ X a f1) (hb : PQ X b f2) (hc : PQ X c f3)
    (hm : lastMarks [op, op'] [b, c] = false := by with_unfolding_all rfl) : PB X (.Compare a [op, op'] [b, c] pos) (oB (ch3 f1 f2 f3 p q)) := le_chain.pt rfl (pt_chain ho ho' ha hb hc hm)
/-! sum of a tuple -/
def rSumT (K : PySem.W.Frag) : List V → Hp → VK → Prop := fun vs H Q => ∃ (a : Addr) (ns : List Int), vs = [V.ref a] ∧ SqT K H a (ns.map V.int) ∧ Q (.int ns.sum) H
theorem cr_sumT (hc : X.calm = true) : CallR X (.builtin "sum") (rSumT X.K) := by
  intro pins s σ H vs us Q I r h
  obtain ⟨a, ns, rfl, hs, q⟩ := h
  obtain ⟨its, rv, hl, _⟩ := I.tuple hs
  rw [Vals.ref1 r]
  have hi := rv.ints
  obtain ⟨xs, e⟩ := hi.allInts.items
  have hn : numsOf (intItems xs).toList = ns := by rw [← e]; exact hi.numsOf
  rw [nums_intItems] at hn
  rw [e] at hl
  refine PySem.W.ktm_sumG (I.ok.hd hc) hl fun h' tk t' hk => ?_
  rw [preSum_eq, List.take_of_length_le (by simp), hn]
  exact ⟨.int _, H, I.kept hk, ⟨_, rfl⟩, q⟩
def gSumT : PyData → Option PyData
  | .tuple ds => (ints? ds).map fun ns => .int (sumI ns)
  | _ => none
theorem c_sumT (hc : X.calm = true) (hg : Gl X "sum") (hm : X.mg "sum" = none) (ha : PQ X a f) (hs : starEach [a] X.env = (false, eval a X.env) :: starEach [] X.env := by rfl) (hpl : (backTo pos (starEach [] X.env)).any (·.1) = false := by rfl) : PF X (.Call (.Name "sum" p) [a] [] pos) (u1 f gSumT) :=
  c_B1 bkF (cr_sumT hc) hg hm (by decide +kernel) ha (fun B Hf env σ H0 H x d1 d Q S r1 z k => by
    obtain ⟨ds, rfl⟩ : ∃ i, d1 = .tuple i := by
      cases d1 <;> first | exact ⟨_, rfl⟩ | cases z
    obtain ⟨ns, z2, rfl⟩ := Option.map_eq_some_iff.mp (show (ints? ds).map (fun ns => PyData.int (sumI ns)) = some d from z)
    obtain ⟨q, xs, rfl, hq, rk⟩ := rq_tup S r1
    rw [ints?_some z2] at rk
    rw [rk.ints] at hq
    exact ⟨q, ns, rfl, hq, by rw [← sumI_eq]; exact opw_int S k⟩) (hs := hs) (hpl := hpl)
theorem room4 {k : Nat} {A : Around} (h : Room k A) : A.units + 64 < cLine := by
  have := h.un
  omega
theorem room5 {k : Nat} {A : Around} (h : Room k A) : A.units + 65 < cLine := by
  have := h.un
  omega
end
end Q7

-- part Qo
set_option Elab.async false
set_option linter.all false
set_option maxRecDepth 100000
/-! Qo: readings of the rarer constructs. -/
namespace Q7
open PySem PySem.Spec PyProof.Rows L2
open PySem.W (dataLt)

def zpLTOf (f1 f2 : Nv → Option PyData) : Nv → Option (List PyData) := fun env => (lsOf f1 env).bind fun a => (tsOf f2 env).map (zipD a)
def zpTTOf (f1 f2 : Nv → Option PyData) : Nv → Option (List PyData) := fun env => (tsOf f1 env).bind fun a => (tsOf f2 env).map (zipD a)
def ezOf (f1 f2 : Nv → Option PyData) : Nv → Option (List PyData) := fun env => (zpOf f1 f2 env).map (enD 0)
/-- a rising list without its repeats -/
def ddI : List Int → List Int
  | [] => []
  | i :: r => match ddI r with
    | [] => [i]
    | j :: t => if decide (i = j) then j :: t else i :: j :: t
def gSortS : PyData → Option PyData := onIs fun ns => if Nat.blt ns.length 60 then some (.list ((ddI (sortI ns)).map .int)) else none
/-- rows by their first two items -/
def key2 : PyData → Option PyData
  | .tuple (a :: b :: _ :: _) => some (.tuple [a, b])
  | _ => none
/-! no list, no dict within -/
mutual
def flatD : PyData → Bool
  | .none => true
  | .bool _ => true
  | .int _ => true
  | .str _ => true
  | .list _ => false
  | .tuple ds => flatL ds
  | .dict _ => false
def flatL : List PyData → Bool
  | [] => true
  | d :: ds => flatD d && flatL ds
end
def keys2 : List PyData → Option (List (PyData × PyData))
  | [] => some []
  | d :: r => (key2 d).bind fun k => (keys2 r).map ((k, d) :: ·)
def insP (d : PyData × PyData) : List (PyData × PyData) → List (PyData × PyData)
  | [] => [d]
  | e :: r => if dataLt e.1 d.1 then e :: insP d r else d :: e :: r
def sortP : List (PyData × PyData) → List (PyData × PyData)
  | [] => []
  | d :: r => insP d (sortP r)
def gSortR : PyData → Option PyData
  | .list ds => (keys2 ds).bind fun ks => if okSort (ks.map Prod.fst) && (upD ((sortP ks).map Prod.fst) && ks.all fun b => flatD b.1) then some (.list ((sortP ks).map Prod.snd)) else none
  | _ => none
/-- d[k], y = a, b -/
def sAsgK (i j : Nat) (fk f1 f2 : Nv → Option PyData) : Sx := fun env => (f1 env).bind fun d1 => (f2 env).bind fun d2 => (nW i env).bind fun o => (fk env).bind fun k => (putK' o k d1).map fun o' => .nx ((chg i env o').set j (.fr d2))
end Q7

-- part Qo2
set_option Elab.async false
set_option linter.all false
set_option maxRecDepth 100000
/-! Qo2: quicker readings: the sum of products, gcd. -/
namespace Q7
open PySem PySem.Spec PyProof.Rows L2

theorem pe_le {X : Cx} {e : Expr} {R : Md} {f f' : Nv → Option PyData} (h : PE X e (tX X.K R f)) (k : ∀ env d, f' env = some d → f env = some d) : PE X e (tX X.K R f') := pe_imp h fun σ H Q ⟨B, Hf, env, d, S, z, q⟩ => ⟨B, Hf, env, d, S, k env d z, q⟩
def nGcd : List PyData → Option PyData
  | [.int a, .int b] => if Nat.ble b.natAbs 1000000000000000000 then some (.int (Int.ofNat (Nat.gcd a.natAbs b.natAbs))) else none
  | _ => none
/-- sum of xs[i] * ys[i] -/
def dotD : List PyData → List PyData → Option Int
  | _, [] => some 0
  | .int a :: r, .int b :: t => if Nat.blt a.natAbs 18446744073709551616 then (dotD r t).map fun s => a * b + s else none
  | _, _ :: _ => none
def fDot (iS iF iP : Nat) : Nv → Option PyData := fun env => match nQ iS env, nQ iF env, nQ iP env with
  | some (.list (_ :: ss)), some (.list fs), some (.int p) => if Nat.ble fs.length 99999 && decide (p = Int.ofNat fs.length) then (dotD ss fs.reverse).map .int else none
  | _, _, _ => none
theorem dotD_cons {ss : List PyData} {y : PyData} {t : List PyData} {r : Int} (h : dotD ss (y :: t) = some r) : ∃ a b ss2 s, ss = .int a :: ss2 ∧ y = .int b ∧ okMul a b = true ∧ dotD ss2 t = some s ∧ r = a * b + s := by
  unfold dotD at h
  split at h
  · cases ‹_ :: _ = []›
  · rename_i heq
    cases heq
    split at h
    · rename_i q
      obtain ⟨s, h1, rfl⟩ := Option.map_eq_some_iff.mp h
      exact ⟨_, _, _, _, rfl, rfl, by unfold okMul; rw [q]; rfl, h1, rfl⟩
    · cases h
  · cases h
theorem nQ_set {i k : Nat} {env : Nv} {c : Cell} (h : k ≠ i) : nQ i (env.set k c) = nQ i env := by
  unfold nQ
  rw [List.getElem?_set_ne h]
theorem nQ_self {k : Nat} {env : Nv} {d : PyData} (h : k < env.length) : nQ k (env.set k (.fr d)) = some d := by
  unfold nQ
  rw [List.getElem?_set_self h]
theorem atI_nat {α : Type} {xs : List α} {j : Nat} (h : j < xs.length) : atI xs (Int.ofNat j) = xs[j]? := by
  unfold atI ixN
  have h1 : (0 : Int) ≤ Int.ofNat j := Int.natCast_nonneg j
  have h2 : Int.ofNat j < (xs.length : Int) := Int.ofNat_lt.mpr h
  rw [if_pos h1, if_pos h2]
  rfl
theorem dot_lc {iS iF iP k p : Nat} {env : Nv} {s0 : PyData} {ss fs : List PyData} (hS : nQ iS env = some (.list (s0 :: ss))) (hF : nQ iF env = some (.list fs)) (hP : nQ iP env = some (.int (Int.ofNat p))) (hp : p = fs.length) (k1 : k ≠ iS) (k2 : k ≠ iF) (k3 : k ≠ iP) (hk : k < env.length) :
    ∀ (n i : Nat) (r : Int), i + n = p → dotD (ss.drop i) (fs.reverse.drop i) = some r →
      ∃ ms, lcF (bNm k) bYes (b2 (b2 (nQ iS) (nQ k) gIx) (b2 (nQ iF) (b2 (nQ iP) (nQ k) aSub) gIx) aMul) (env.set k .un) (rgD 1 1 n i) = some (ms.map PyData.int) ∧ sumI ms = r
  | 0, i, r, e, h => by
    have hl : fs.reverse.drop i = [] := List.drop_eq_nil_of_le (by rw [List.length_reverse]; omega)
    rw [hl] at h
    unfold dotD at h
    cases h
    exact ⟨[], rfl, rfl⟩
  | n + 1, i, r, e, h => by
    have hi : i < fs.reverse.length := by rw [List.length_reverse]; omega
    rw [List.drop_eq_getElem_cons hi] at h
    obtain ⟨a, b, ss2, s, e1, e2, ok, h2, rfl⟩ := dotD_cons h
    obtain ⟨g1, g2, g3⟩ := drop_some e1
    obtain ⟨ms, h3, h4⟩ := dot_lc hS hF hP hp k1 k2 k3 hk n (i + 1) s (by omega) (by rw [g2]; exact h2)
    refine ⟨(a * b) :: ms, ?_, by rw [sumI, h4]⟩
    have ej : (1 : Int) + (i : Nat) * 1 = Int.ofNat (i + 1) := by
      show _ = ((i + 1 : Nat) : Int)
      omega
    have e0 : (env.set k .un).set k (.fr (.int (Int.ofNat (i + 1)))) = env.set k (.fr (.int (Int.ofNat (i + 1)))) := by rw [List.set_set]
    have v1 : (b2 (nQ iS) (nQ k) gIx) (env.set k (.fr (.int (Int.ofNat (i + 1))))) = some (.int a) := by
      show (nQ iS _).bind (fun x => (nQ k _).bind fun y => gIx x y) = _
      rw [nQ_set k1, nQ_self hk, hS]
      show atI (s0 :: ss) (Int.ofNat (i + 1)) = _
      rw [atI_nat (by rw [List.length_cons]; omega)]
      exact g1
    have v2 : (b2 (nQ iF) (b2 (nQ iP) (nQ k) aSub) gIx) (env.set k (.fr (.int (Int.ofNat (i + 1))))) = some (.int b) := by
      show (nQ iF _).bind (fun x => ((nQ iP _).bind fun u => (nQ k _).bind fun w => aSub u w).bind fun y => gIx x y) = _
      rw [nQ_set k2, nQ_set k3, nQ_self hk, hF, hP]
      show atI fs (Int.ofNat p - Int.ofNat (i + 1)) = _
      have ep : Int.ofNat p - Int.ofNat (i + 1) = Int.ofNat (p - (i + 1)) := by
        show ((p : Nat) : Int) - ((i + 1 : Nat) : Int) = ((p - (i + 1) : Nat) : Int)
        omega
      rw [ep, atI_nat (by omega)]
      rw [List.getElem_reverse] at e2
      rw [List.getElem?_eq_getElem (by omega), ← e2]
      congr 2
      omega
    show ((bNm k (.int (1 + (i : Nat) * 1)) (env.set k .un)).bind _) = _
    have e1 : bNm k (PyData.int (Int.ofNat (i + 1))) (env.set k .un) = some (env.set k (.fr (.int (Int.ofNat (i + 1))))) := congrArg some e0
    rw [ej, e1]
    show (Option.bind ((b2 (b2 (nQ iS) (nQ k) gIx) (b2 (nQ iF) (b2 (nQ iP) (nQ k) aSub) gIx) aMul) (env.set k (.fr (.int (Int.ofNat (i + 1)))))) fun x => Option.map (fun z => x :: z) (lcF (bNm k) bYes (b2 (b2 (nQ iS) (nQ k) gIx) (b2 (nQ iF) (b2 (nQ iP) (nQ k) aSub) gIx) aMul) (env.set k .un) (rgD 1 1 n (i + 1)))) = _
    have v3 : (b2 (b2 (nQ iS) (nQ k) gIx) (b2 (nQ iF) (b2 (nQ iP) (nQ k) aSub) gIx) aMul) (env.set k (.fr (.int (Int.ofNat (i + 1))))) = some (.int (a * b)) := by
      show ((b2 (nQ iS) (nQ k) gIx) _).bind (fun x => ((b2 (nQ iF) (b2 (nQ iP) (nQ k) aSub) gIx) _).bind fun y => aMul x y) = _
      rw [v1, v2]
      show (if okMul a b then some (PyData.int (a * b)) else none) = _
      rw [if_pos ok]
    rw [v3]
    rw [h3]
    rfl
theorem dot_ok {iS iF iP k : Nat} (k1 : k ≠ iS) (k2 : k ≠ iF) (k3 : k ≠ iP) (env : Nv) (d : PyData) (hk : k < env.length) (h : fDot iS iF iP env = some d) :
    (u1 (fLc (r2Of (kD (.int 1)) (b2 (nQ iP) (kD (.int 1)) aAdd)) (bNm k) bYes (b2 (b2 (nQ iS) (nQ k) gIx) (b2 (nQ iF) (b2 (nQ iP) (nQ k) aSub) gIx) aMul) [k]) gSum) env = some d := by
  unfold fDot at h
  split at h
  · rename_i s0 ss fs p hS hF hP
    split at h
    · rename_i q
      obtain ⟨q1, q2⟩ := Bool.and_eq_true_iff.mp q
      have ep := of_decide_eq_true q2
      subst ep
      have q1 := Nat.le_of_ble_eq_true q1
      obtain ⟨r, h1, rfl⟩ := Option.map_eq_some_iff.mp h
      obtain ⟨ms, h2, h3⟩ := dot_lc hS hF hP rfl k1 k2 k3 hk fs.length 0 r (by omega) (by rw [List.drop_zero, List.drop_zero]; exact h1)
      have hr : (r2Of (kD (.int 1)) (b2 (nQ iP) (kD (.int 1)) aAdd)) env = some (rgD 1 1 fs.length 0) := by
        show (some (PyData.int 1)).bind (fun a => ((nQ iP env).bind fun u => (some (PyData.int 1)).bind fun w => aAdd u w).bind fun b => rg2 a b) = _
        rw [hP]
        have o2 : okR (Int.ofNat fs.length + 1) = true := by
          unfold okR
          rw [Bool.and_eq_true]
          constructor
          · exact decide_eq_true (show (-100000 : Int) ≤ ((fs.length : Nat) : Int) + 1 by omega)
          · exact decide_eq_true (show ((fs.length : Nat) : Int) + 1 ≤ 100000 by omega)
        have o1 : okR 1 = true := by decide +kernel
        have et : (Int.ofNat fs.length + 1 - 1).toNat = fs.length := by
          show (((fs.length : Nat) : Int) + 1 - 1).toNat = _
          omega
        have eg : rg2 (.int 1) (.int (Int.ofNat fs.length + 1)) = some (rgD 1 1 fs.length 0) := by
          unfold rg2
          dsimp only
          rw [o1, o2, et]
          rfl
        have ea : aAdd (.int (Int.ofNat fs.length)) (.int 1) = some (.int (Int.ofNat fs.length + 1)) := rfl
        simp only [Option.bind_some]
        rw [ea, Option.bind_some]
        exact eg
      show (((r2Of (kD (.int 1)) (b2 (nQ iP) (kD (.int 1)) aAdd)) env).bind _).bind gSum = _
      rw [hr]
      show ((if Nat.ble (rgD 1 1 fs.length 0).length 100000 then (lcF _ _ _ (env.set k .un) (rgD 1 1 fs.length 0)).map PyData.list else none)).bind gSum = _
      rw [rgD_len, if_pos (by apply Nat.ble_eq_true_of_le; omega), h2]
      show (ints? (ms.map PyData.int)).bind _ = _
      have ei : ∀ l : List Int, ints? (l.map PyData.int) = some l := fun l => by
        induction l with
        | nil => rfl
        | cons x l ih =>
          show (ints? (l.map PyData.int)).map _ = _
          rw [ih]
          rfl
      rw [ei]
      show some (PyData.int (sumI ms)) = _
      rw [h3]
    · cases h
  · cases h
def fDotK (iS iF iP k : Nat) : Nv → Option PyData := fun env => if env[k]?.isSome then fDot iS iF iP env else none
theorem c_dot {X : Cx} {e : Expr} {iS iF iP k : Nat} (h : PF X e (u1 (fLc (r2Of (kD (.int 1)) (b2 (nQ iP) (kD (.int 1)) aAdd)) (bNm k) bYes (b2 (b2 (nQ iS) (nQ k) gIx) (b2 (nQ iF) (b2 (nQ iP) (nQ k) aSub) gIx) aMul) [k]) gSum)) (k1 : k ≠ iS := by decide) (k2 : k ≠ iF := by decide) (k3 : k ≠ iP := by decide) : PF X e (fDotK iS iF iP k) :=
  pe_le h fun env d z => by
    unfold fDotK at z
    split at z
    · rename_i q
      obtain ⟨c, hc⟩ := Option.isSome_iff_exists.mp q
      exact dot_ok k1 k2 k3 env d (List.getElem?_eq_some_iff.mp hc).1 z
    · cases z
end Q7

-- part Qo3
set_option Elab.async false
set_option linter.all false
set_option maxRecDepth 100000
/-! Qo3: a list beside the empty list. -/
namespace Q7
open PySem PySem.Spec PyProof.Rows L2

def rEqE (K : PySem.W.Frag) (c : Bool) : R2 := fun x y H Q => ∃ a b xs ys, x = .ref a ∧ y = .ref b ∧ SqL K H a xs ∧ SqL K H b ys ∧ xs.length ≠ ys.length ∧ Q (.bl c) H
theorem op_eqE {X : Cx} (hu : X.A.units + 64 < cLine) : OpR X (compareOp .Eq) (rEqE X.K false) := by
  intro pins s σ H x y v u Q I rx ry h
  obtain ⟨a, b, xs, ys, rfl, rfl, h1, h2, ne, q⟩ := h
  cases rx
  cases ry
  obtain ⟨i1, v1, p1, _⟩ := I.list h1
  obtain ⟨i2, v2, p2, _⟩ := I.list h2
  have hsz : (i1.toArray.size != i2.toArray.size) = true := by
    rw [bne_iff_ne, List.size_toArray, List.size_toArray, ← v1.length, ← v2.length]
    exact ne
  exact SeqAt.RcAt.lists_lengths p1.isList p2.isList hsz (by omega) _ _ _ _ ⟨.bl false, H, I, rfl, q⟩
theorem op_neE {X : Cx} (hu : X.A.units + 64 < cLine) : OpR X (compareOp .NotEq) (rEqE X.K true) := by
  intro pins s σ H x y v u Q I rx ry h
  obtain ⟨a, b, xs, ys, rfl, rfl, h1, h2, ne, q⟩ := h
  cases rx
  cases ry
  obtain ⟨i1, v1, p1, _⟩ := I.list h1
  obtain ⟨i2, v2, p2, _⟩ := I.list h2
  have hsz : (i1.toArray.size != i2.toArray.size) = true := by
    rw [bne_iff_ne, List.size_toArray, List.size_toArray, ← v1.length, ← v2.length]
    exact ne
  exact SeqAt.RcNeAt.lists_lengths p1.isList p2.isList hsz (by omega) _ _ _ _ ⟨.bl true, H, I, rfl, q⟩
def cEqE : PyData → PyData → Option PyData
  | .list [], .list [] => some (.bool true)
  | .list (_ :: _), .list [] => some (.bool false)
  | _, _ => none
def cNeE : PyData → PyData → Option PyData
  | .list [], .list [] => some (.bool false)
  | .list (_ :: _), .list [] => some (.bool true)
  | _, _ => none
section
variable {X : Cx} {a b : Expr} {f1 f2 : Nv → Option PyData} {pos : Pos}
theorem le_eqE {K : PySem.W.Frag} : Le K (RF K) (b2 f1 f2 cEqE) (tOp (fun x y H Q => rEqE K false x y H Q ∨ rEqD K x y H Q) (tX K (RQ K) f1) (tX K (RQ K) f2)) :=
  le2 (R1 := RQ K) (R2 := RQ K) fwQ bkF fun B Hf env σ H0 H x y d1 d2 d Q S r1 r2 z k => by
    unfold cEqE at z
    split at z
    · cases z
      exact .inr ⟨.list [], .list [], rq_dp S rfl r1, rq_dp S rfl r2, by decide +kernel, by decide +kernel, opw_bl S k⟩
    · cases z
      obtain ⟨p, xs, rfl, hp, rp⟩ := rq_lst S r1
      obtain ⟨q, ys, rfl, hq, rq⟩ := rq_lst S r2
      exact .inl ⟨p, q, xs, ys, rfl, rfl, hp, hq, by rw [rp.length, rq.length, List.length_cons]; exact Nat.succ_ne_zero _, opw_bl S k⟩
    · cases z
theorem le_neE {K : PySem.W.Frag} : Le K (RF K) (b2 f1 f2 cNeE) (tOp (fun x y H Q => rEqE K true x y H Q ∨ rNeD K x y H Q) (tX K (RQ K) f1) (tX K (RQ K) f2)) :=
  le2 (R1 := RQ K) (R2 := RQ K) fwQ bkF fun B Hf env σ H0 H x y d1 d2 d Q S r1 r2 z k => by
    unfold cNeE at z
    split at z
    · cases z
      exact .inr ⟨.list [], .list [], rq_dp S rfl r1, rq_dp S rfl r2, by decide +kernel, by decide +kernel, opw_bl S k⟩
    · cases z
      obtain ⟨p, xs, rfl, hp, rp⟩ := rq_lst S r1
      obtain ⟨q, ys, rfl, hq, rq⟩ := rq_lst S r2
      exact .inl ⟨p, q, xs, ys, rfl, rfl, hp, hq, by rw [rp.length, rq.length, List.length_cons]; exact Nat.succ_ne_zero _, opw_bl S k⟩
    · cases z
theorem c_eqE (hu : X.A.units + 64 < cLine) (ha : PQ X a f1) (hb : PQ X b f2) : PF X (.Compare a [.Eq] [b] pos) (b2 f1 f2 cEqE) := le_eqE.pe (pe_cmpR ((op_eqE hu).or (op_eqD hu)) ha hb (nomark _))
theorem b_eqE (hu : X.A.units + 64 < cLine) (ha : PQ X a f1) (hb : PQ X b f2) : PB X (.Compare a [.Eq] [b] pos) (oB (b2 f1 f2 cEqE)) := le_eqE.pt rfl (pt_cmpR ((op_eqE hu).or (op_eqD hu)) ha hb (nomark _))
theorem c_neE (hu : X.A.units + 64 < cLine) (ha : PQ X a f1) (hb : PQ X b f2) : PF X (.Compare a [.NotEq] [b] pos) (b2 f1 f2 cNeE) := le_neE.pe (pe_cmpR ((op_neE hu).or (op_neD hu)) ha hb (nomark _))
theorem b_neE (hu : X.A.units + 64 < cLine) (ha : PQ X a f1) (hb : PQ X b f2) : PB X (.Compare a [.NotEq] [b] pos) (oB (b2 f1 f2 cNeE)) := le_neE.pt rfl (pt_cmpR ((op_neE hu).or (op_neD hu)) ha hb (nomark _))
end
end Q7

-- part Qf1
set_option Elab.async false
set_option linter.all false
set_option maxRecDepth 100000
/-! Qf1: the same readings, told by recursors (quicker in the kernel). -/
namespace Q7
open PySem PySem.Spec PyProof.Rows L2

section
variable {α β : Type}
noncomputable def bd (x : Option α) (f : α → Option β) : Option β := Option.rec none f x
theorem bd_eq (x : Option α) (f : α → Option β) : bd x f = x.bind f := by cases x <;> rfl
noncomputable def lg (n : Nat) : List α → Option α := Nat.rec (fun l => List.rec none (fun c _ _ => some c) l) (fun _ ih l => List.rec none (fun _ r _ => ih r) l) n
theorem lg_eq : ∀ (n : Nat) (l : List α), lg n l = l[n]?
  | 0, [] => rfl
  | 0, _ :: _ => rfl
  | n + 1, [] => rfl
  | n + 1, _ :: r => (lg_eq n r).trans (by rw [List.getElem?_cons_succ])
noncomputable def ls (n : Nat) (c : α) : List α → List α := Nat.rec (fun l => List.rec [] (fun _ r _ => c :: r) l) (fun _ ih l => List.rec [] (fun d r _ => d :: ih r) l) n
theorem ls_eq (c : α) : ∀ (n : Nat) (l : List α), ls n c l = l.set n c
  | 0, [] => rfl
  | 0, _ :: _ => rfl
  | n + 1, [] => rfl
  | n + 1, d :: r => congrArg (d :: ·) (ls_eq c n r)
noncomputable def lsO (n : Nat) (c : α) : List α → Option (List α) := Nat.rec (fun l => List.rec none (fun _ r _ => some (c :: r)) l) (fun _ ih l => List.rec none (fun d r _ => bd (ih r) fun t => some (d :: t)) l) n
theorem lsO_eq (c : α) : ∀ (n : Nat) (l : List α), lsO n c l = if n < l.length then some (l.set n c) else none
  | 0, [] => rfl
  | 0, _ :: _ => by rw [List.length_cons, if_pos (Nat.succ_pos _)]; rfl
  | n + 1, [] => rfl
  | n + 1, d :: r => by
    show bd (lsO n c r) (fun t => some (d :: t)) = _
    rw [lsO_eq c n r, List.length_cons]
    by_cases h : n < r.length
    · rw [if_pos h, if_pos (Nat.succ_lt_succ h)]
      rfl
    · rw [if_neg h, if_neg (fun q => h (Nat.lt_of_succ_lt_succ q))]
      rfl
noncomputable def ln (l : List α) : Nat := List.rec 0 (fun _ _ ih => Nat.succ ih) l
theorem ln_eq : ∀ l : List α, ln l = l.length
  | [] => rfl
  | _ :: r => congrArg Nat.succ (ln_eq r)
noncomputable def frN (n : Nat) (k : Nat → α) : α := Nat.rec (k 0) (fun m _ => k (Nat.succ m)) n
theorem frN_eq (n : Nat) (k : Nat → α) : frN n k = k n := by cases n <;> rfl
noncomputable def frI (i : Int) (k : Int → α) : α := Int.rec (fun n => frN n fun m => k (Int.ofNat m)) (fun n => frN n fun m => k (Int.negSucc m)) i
theorem frI_eq (i : Int) (k : Int → α) : frI i k = k i := by
  cases i with
  | ofNat n => exact frN_eq n fun m => k (.ofNat m)
  | negSucc n => exact frN_eq n fun m => k (.negSucc m)
/-- a datum, by its kind -/
noncomputable abbrev dK (d : PyData) (no : α) (bo : Bool → α) (it : Int → α) (st : Str → α) (li tu : List PyData → α) (di : List (PyData × PyData) → α) : α := PyData.casesOn (motive_1 := fun _ => α) d no bo it st li tu di
noncomputable def frD (d : PyData) (k : PyData → α) : α := dK d (k d) (fun _ => k d) (fun i => frI i fun j => k (.int j)) (fun _ => k d) (fun _ => k d) (fun _ => k d) (fun _ => k d)
theorem frD_eq (d : PyData) (k : PyData → α) : frD d k = k d := by
  cases d with
  | int i => exact frI_eq i fun j => k (.int j)
  | _ => rfl
noncomputable def bI (c : Bool) (a b : α) : α := Bool.rec b a c
theorem bI_eq (c : Bool) (a b : α) : bI c a b = if c then a else b := by cases c <;> rfl
end
/-! numbers -/
noncomputable def iAdd (i j : Int) : Int := Int.rec (fun m => Int.rec (fun n => .ofNat (Nat.add m n)) (fun n => Int.subNatNat m (Nat.succ n)) j) (fun m => Int.rec (fun n => Int.subNatNat n (Nat.succ m)) (fun n => .negSucc (Nat.succ (Nat.add m n))) j) i
theorem iAdd_eq (i j : Int) : iAdd i j = i + j := by cases i <;> cases j <;> rfl
noncomputable def iSub (i j : Int) : Int := Int.rec (fun m => Int.rec (fun n => Int.subNatNat m n) (fun n => .ofNat (Nat.succ (Nat.add m n))) j) (fun m => Int.rec (fun n => .negSucc (Nat.add m n)) (fun n => Int.subNatNat (Nat.succ n) (Nat.succ m)) j) i
theorem iSub_eq (i j : Int) : iSub i j = i - j := by
  cases i with
  | ofNat m =>
    cases j with
    | ofNat n => exact Int.subNatNat_eq_coe
    | negSucc n => rfl
  | negSucc m =>
    cases j with
    | ofNat n =>
      show Int.negSucc (m + n) = Int.negSucc m - (n : Int)
      omega
    | negSucc n => rfl
noncomputable def iMul (i j : Int) : Int := Int.rec (fun m => Int.rec (fun n => .ofNat (Nat.mul m n)) (fun n => Int.negOfNat (Nat.mul m (Nat.succ n))) j) (fun m => Int.rec (fun n => Int.negOfNat (Nat.mul (Nat.succ m) n)) (fun n => .ofNat (Nat.mul (Nat.succ m) (Nat.succ n))) j) i
theorem iMul_eq (i j : Int) : iMul i j = i * j := by cases i <;> cases j <;> rfl
theorem fmodN (x y : Nat) : (Int.ofNat x).fmod (Int.ofNat y) = Int.ofNat (x % y) := by
  cases x with
  | zero =>
    rw [Nat.zero_mod]
    cases y <;> rfl
  | succ n => cases y <;> rfl
noncomputable def iMod (i j : Int) : Int := Int.rec (fun m => Int.rec (fun n => .ofNat (Nat.mod m n)) (fun _ => i.fmod j) j) (fun _ => i.fmod j) i
theorem iMod_eq (i j : Int) : iMod i j = i.fmod j := by
  cases i with
  | ofNat m =>
    cases j with
    | ofNat n => exact (fmodN m n).symm
    | negSucc n => rfl
  | negSucc m => rfl
theorem fdivN (x y : Nat) : (Int.ofNat x).fdiv (Int.ofNat y) = Int.ofNat (x / y) := by
  cases x with
  | zero =>
    rw [Nat.zero_div]
    cases y <;> rfl
  | succ n => cases y <;> rfl
noncomputable def iDiv (i j : Int) : Int := Int.rec (fun m => Int.rec (fun n => .ofNat (Nat.div m n)) (fun _ => i.fdiv j) j) (fun _ => i.fdiv j) i
theorem iDiv_eq (i j : Int) : iDiv i j = i.fdiv j := by
  cases i with
  | ofNat m =>
    cases j with
    | ofNat n => exact (fdivN m n).symm
    | negSucc n => rfl
  | negSucc m => rfl
noncomputable def iLt (i j : Int) : Bool := Int.rec (fun m => Int.rec (fun n => Nat.blt m n) (fun _ => false) j) (fun m => Int.rec (fun _ => true) (fun n => Nat.blt n m) j) i
theorem bool_dec {b : Bool} {p : Prop} [Decidable p] (h : b = true ↔ p) : b = decide p := by
  by_cases q : p
  · rw [decide_eq_true q]; exact h.mpr q
  · rw [decide_eq_false q]
    cases b with
    | false => rfl
    | true => exact absurd (h.mp rfl) q
theorem iLt_eq (i j : Int) : iLt i j = decide (i < j) := by
  apply bool_dec
  cases i with
  | ofNat m =>
    cases j with
    | ofNat n =>
      show Nat.blt m n = true ↔ (m : Int) < (n : Int)
      rw [Nat.blt_eq]
      omega
    | negSucc n =>
      show false = true ↔ (m : Int) < Int.negSucc n
      constructor
      · intro h; cases h
      · intro h; omega
  | negSucc m =>
    cases j with
    | ofNat n =>
      show true = true ↔ Int.negSucc m < (n : Int)
      constructor
      · intro _; omega
      · intro _; rfl
    | negSucc n =>
      show Nat.blt n m = true ↔ Int.negSucc m < Int.negSucc n
      rw [Nat.blt_eq]
      omega
noncomputable def iLe (i j : Int) : Bool := bI (iLt j i) false true
theorem iLe_eq (i j : Int) : iLe i j = decide (i ≤ j) := by
  apply bool_dec
  unfold iLe
  rw [bI_eq, iLt_eq]
  by_cases h : j < i
  · rw [if_pos (decide_eq_true h)]
    constructor
    · intro q; cases q
    · intro q; omega
  · rw [if_neg (by rw [decide_eq_false h]; exact Bool.false_ne_true)]
    constructor
    · intro _; omega
    · intro _; rfl
noncomputable def iEq (i j : Int) : Bool := Int.rec (fun m => Int.rec (fun n => Nat.beq m n) (fun _ => false) j) (fun m => Int.rec (fun _ => false) (fun n => Nat.beq m n) j) i
theorem iEq_eq (i j : Int) : iEq i j = decide (i = j) := by
  apply bool_dec
  cases i with
  | ofNat m =>
    cases j with
    | ofNat n =>
      show Nat.beq m n = true ↔ (m : Int) = (n : Int)
      rw [Nat.beq_eq]
      omega
    | negSucc n =>
      show false = true ↔ (m : Int) = Int.negSucc n
      constructor
      · intro h; cases h
      · intro h; omega
  | negSucc m =>
    cases j with
    | ofNat n =>
      show false = true ↔ Int.negSucc m = (n : Int)
      constructor
      · intro h; cases h
      · intro h; omega
    | negSucc n =>
      show Nat.beq m n = true ↔ Int.negSucc m = Int.negSucc n
      rw [Nat.beq_eq]
      omega
end Q7

-- part Qf2
set_option Elab.async false
set_option linter.all false
set_option maxRecDepth 100000
/-! Qf2: the combinators by recursors. -/
namespace Q7
open PySem PySem.Spec PyProof.Rows L2

noncomputable def xnF (i : Nat) : Nv → Option PyData := fun env => bd (lg i env) fun c => Cell.rec none (fun _ => none) (fun d => some d) (fun _ => none) c
theorem xnF_eq : xnF = nF := by
  funext i env
  unfold xnF nF
  rw [bd_eq, lg_eq]
  cases env[i]? with
  | none => rfl
  | some c => cases c <;> rfl
noncomputable def xnW (i : Nat) : Nv → Option PyData := fun env => bd (lg i env) fun c => Cell.rec none (fun _ => none) (fun _ => none) (fun d => some d) c
theorem xnW_eq : xnW = nW := by
  funext i env
  unfold xnW nW
  rw [bd_eq, lg_eq]
  cases env[i]? with
  | none => rfl
  | some c => cases c <;> rfl
noncomputable def xnQ (i : Nat) : Nv → Option PyData := fun env => bd (lg i env) fun c => Cell.rec none (fun _ => none) (fun d => some d) (fun d => some d) c
theorem xnQ_eq : xnQ = nQ := by
  funext i env
  unfold xnQ nQ
  rw [bd_eq, lg_eq]
  cases env[i]? with
  | none => rfl
  | some c => cases c <;> rfl
noncomputable def xu1 (f : Nv → Option PyData) (g : PyData → Option PyData) : Nv → Option PyData := fun env => bd (f env) g
theorem xu1_eq : xu1 = u1 := by
  funext f g env
  exact bd_eq _ _
noncomputable def xb2 (f1 f2 : Nv → Option PyData) (g : PyData → PyData → Option PyData) : Nv → Option PyData := fun env => bd (f1 env) fun a => bd (f2 env) fun b => g a b
theorem xb2_eq : xb2 = b2 := by
  funext f1 f2 g env
  unfold xb2 b2
  simp only [bd_eq]
noncomputable def xb3 (f1 f2 f3 : Nv → Option PyData) (g : PyData → PyData → PyData → Option PyData) : Nv → Option PyData := fun env => bd (f1 env) fun a => bd (f2 env) fun b => bd (f3 env) fun c => g a b c
theorem xb3_eq : xb3 = b3 := by
  funext f1 f2 f3 g env
  unfold xb3 b3
  simp only [bd_eq]
/-- of two ints -/
noncomputable def xonI (g : Int → Int → Option PyData) (a b : PyData) : Option PyData := dK a none (fun _ => none) (fun i => dK b none (fun _ => none) (fun j => g i j) (fun _ => none) (fun _ => none) (fun _ => none) (fun _ => none)) (fun _ => none) (fun _ => none) (fun _ => none) (fun _ => none)
theorem xonI_eq (g : Int → Int → Option PyData) : xonI g = onI g := by
  funext a b
  cases a <;> cases b <;> rfl
noncomputable def nAb (i : Int) : Nat := Int.rec (fun n => n) (fun n => Nat.succ n) i
theorem nAb_eq (i : Int) : nAb i = i.natAbs := by cases i <;> rfl
noncomputable def xAdd : PyData → PyData → Option PyData := xonI fun i j => some (.int (iAdd i j))
theorem xAdd_eq : xAdd = aAdd := by
  unfold xAdd aAdd
  rw [xonI_eq]
  simp only [iAdd_eq]
noncomputable def xSub : PyData → PyData → Option PyData := xonI fun i j => some (.int (iSub i j))
theorem xSub_eq : xSub = aSub := by
  unfold xSub aSub
  rw [xonI_eq]
  simp only [iSub_eq]
noncomputable def xMul : PyData → PyData → Option PyData := xonI fun i j => bI (bI (Nat.blt (nAb i) 18446744073709551616) true (Nat.blt (nAb j) 18446744073709551616)) (some (.int (iMul i j))) none
theorem xMul_eq : xMul = aMul := by
  unfold xMul aMul
  rw [xonI_eq]
  congr 1
  funext i j
  unfold okMul
  rw [bI_eq, bI_eq, nAb_eq, nAb_eq, iMul_eq]
  cases Nat.blt i.natAbs 18446744073709551616 <;> rfl
noncomputable def xMod : PyData → PyData → Option PyData := xonI fun i j => bI (iEq j (Int.ofNat 0)) none (some (.int (iMod i j)))
theorem dec_not {p : Prop} [Decidable p] {α : Type} (a b : α) : (if decide p = true then a else b) = if decide (¬ p) = true then b else a := by
  by_cases h : p
  · rw [if_pos (decide_eq_true h), if_neg (by rw [decide_eq_false (not_not_intro h)]; exact Bool.false_ne_true)]
  · rw [if_neg (by rw [decide_eq_false h]; exact Bool.false_ne_true), if_pos (decide_eq_true h)]
theorem xMod_eq : xMod = aMod := by
  unfold xMod aMod
  rw [xonI_eq]
  congr 1
  funext i j
  rw [bI_eq, iEq_eq, iMod_eq]
  exact dec_not (p := j = 0) _ _
noncomputable def xDiv : PyData → PyData → Option PyData := xonI fun i j => bI (iEq j (Int.ofNat 0)) none (bI (Nat.blt (nAb j) 1073741824) (some (.int (iDiv i j))) none)
theorem xDiv_eq : xDiv = aDiv := by
  unfold xDiv aDiv
  rw [xonI_eq]
  congr 1
  funext i j
  rw [bI_eq, bI_eq, iEq_eq, iDiv_eq, nAb_eq]
  rw [show (if decide (j = Int.ofNat 0) = true then none else if Nat.blt j.natAbs 1073741824 = true then some (PyData.int (i.fdiv j)) else none) = (if decide (¬ j = 0) = true then (if Nat.blt j.natAbs 1073741824 = true then some (PyData.int (i.fdiv j)) else none) else none) from dec_not (p := j = 0) _ _]
  cases h : decide (¬ j = 0) with
  | false => rfl
  | true => rfl
noncomputable def xLt : PyData → PyData → Option PyData := xonI fun i j => some (.bool (iLt i j))
noncomputable def xLe : PyData → PyData → Option PyData := xonI fun i j => some (.bool (iLe i j))
noncomputable def xGt : PyData → PyData → Option PyData := xonI fun i j => some (.bool (iLt j i))
noncomputable def xGe : PyData → PyData → Option PyData := xonI fun i j => some (.bool (iLe j i))
theorem xLt_eq : xLt = cLt := by
  unfold xLt
  rw [xonI_eq]
  simp only [iLt_eq]
  rfl
theorem xLe_eq : xLe = cLe := by
  unfold xLe
  rw [xonI_eq]
  simp only [iLe_eq]
  rfl
theorem xGt_eq : xGt = cGt := by
  unfold xGt
  rw [xonI_eq]
  simp only [iLt_eq]
  rfl
theorem xGe_eq : xGe = cGe := by
  unfold xGe
  rw [xonI_eq]
  simp only [iLe_eq]
  rfl
noncomputable def xEq (a b : PyData) : Option PyData := dK a (cEq a b) (fun _ => cEq a b) (fun i => dK b (cEq a b) (fun _ => cEq a b) (fun j => some (.bool (iEq i j))) (fun _ => cEq a b) (fun _ => cEq a b) (fun _ => cEq a b) (fun _ => cEq a b)) (fun _ => cEq a b) (fun _ => cEq a b) (fun _ => cEq a b) (fun _ => cEq a b)
noncomputable def xNe (a b : PyData) : Option PyData := dK a (cNe a b) (fun _ => cNe a b) (fun i => dK b (cNe a b) (fun _ => cNe a b) (fun j => some (.bool (bI (iEq i j) false true))) (fun _ => cNe a b) (fun _ => cNe a b) (fun _ => cNe a b) (fun _ => cNe a b)) (fun _ => cNe a b) (fun _ => cNe a b) (fun _ => cNe a b) (fun _ => cNe a b)
theorem xEq_eq : xEq = cEq := by
  funext a b
  cases a with
  | int i =>
    cases b with
    | int j =>
      show some (PyData.bool (iEq i j)) = some (PyData.bool (decide (i = j)))
      rw [iEq_eq]
    | _ => rfl
  | _ => rfl
theorem xNe_eq : xNe = cNe := by
  funext a b
  cases a with
  | int i =>
    cases b with
    | int j =>
      show some (PyData.bool (bI (iEq i j) false true)) = some (PyData.bool (!decide (i = j)))
      rw [iEq_eq]
      cases decide (i = j) <;> rfl
    | _ => rfl
  | _ => rfl
noncomputable def dGe (es : List (PyData × PyData)) (k : Int) : Option PyData := List.rec none (fun e _ ih => Prod.rec (fun a d => dK a none (fun _ => none) (fun j => bI (iEq j k) (some d) ih) (fun _ => none) (fun _ => none) (fun _ => none) (fun _ => none)) e) es
theorem dGe_eq (k : Int) : ∀ es, dGe es k = dGet es k
  | [] => rfl
  | (a, d) :: r => by
    have ih := dGe_eq k r
    cases a with
    | int j =>
      show bI (iEq j k) (some d) (dGe r k) = if decide (j = k) then some d else dGet r k
      rw [bI_eq, iEq_eq, ih]
    | _ => rfl
theorem atI_ofNat {α : Type} (xs : List α) (j : Nat) : atI xs (Int.ofNat j) = xs[j]? := by
  by_cases h : j < xs.length
  · exact atI_nat h
  · unfold atI ixN
    have h1 : (0 : Int) ≤ Int.ofNat j := Int.natCast_nonneg j
    have h2 : ¬ Int.ofNat j < (xs.length : Int) := fun q => h (Int.ofNat_lt.mp q)
    rw [if_pos h1, if_neg h2, List.getElem?_eq_none (Nat.le_of_not_lt h)]
    rfl
noncomputable def xat {α : Type} (xs : List α) (i : Int) : Option α := Int.rec (fun n => lg n xs) (fun _ => atI xs i) i
theorem xat_eq {α : Type} (xs : List α) (i : Int) : xat xs i = atI xs i := by
  cases i with
  | ofNat n => exact (lg_eq n xs).trans (atI_ofNat xs n).symm
  | negSucc n => rfl
noncomputable def xIx (a b : PyData) : Option PyData := dK b none (fun _ => none) (fun i => dK a none (fun _ => none) (fun _ => none) (fun _ => none) (fun ds => xat ds i) (fun ds => xat ds i) (fun es => dGe es i)) (fun _ => none) (fun _ => none) (fun _ => none) (fun _ => none)
theorem xIx_eq : xIx = gIx := by
  funext a b
  cases b with
  | int i =>
    cases a with
    | list ds => exact xat_eq ds i
    | tuple ds => exact xat_eq ds i
    | dict es => exact dGe_eq i es
    | _ => rfl
  | _ => cases a <;> rfl
noncomputable def xInt (a : PyData) : Option PyData := dK a none (fun _ => none) (fun i => some (.int i)) (fun _ => none) (fun _ => none) (fun _ => none) (fun _ => none)
theorem xInt_eq : xInt = gInt := by
  funext a
  cases a <;> rfl
noncomputable def xAbs (a : PyData) : Option PyData := dK a none (fun _ => none) (fun i => some (.int (Int.ofNat (nAb i)))) (fun _ => none) (fun _ => none) (fun _ => none) (fun _ => none)
theorem xAbs_eq : xAbs = gAbs := by
  funext a
  cases a with
  | int i =>
    show some (PyData.int (Int.ofNat (nAb i))) = some (PyData.int (if i < 0 then -i else i))
    rw [nAb_eq]
    congr 2
    show ((i.natAbs : Nat) : Int) = _
    split <;> omega
  | _ => rfl
noncomputable def xasB (a : PyData) : Option Bool := dK a none (fun b => some b) (fun _ => none) (fun _ => none) (fun _ => none) (fun _ => none) (fun _ => none)
theorem xasB_eq : xasB = asB := by
  funext a
  cases a <;> rfl
noncomputable def xoB (f : Nv → Option PyData) : Nv → Option Bool := fun env => bd (f env) xasB
theorem xoB_eq : xoB = oB := by
  funext f env
  unfold xoB oB
  rw [bd_eq, xasB_eq]
noncomputable def xbNot (f : Nv → Option Bool) : Nv → Option Bool := fun env => bd (f env) fun b => some (bI b false true)
theorem xbNot_eq : xbNot = bNot := by
  funext f env
  unfold xbNot bNot
  rw [bd_eq]
  cases f env with
  | none => rfl
  | some b => cases b <;> rfl
noncomputable def xbAnd (f g : Nv → Option Bool) : Nv → Option Bool := fun env => bd (f env) fun c => bI c (g env) (some false)
theorem xbAnd_eq : xbAnd = bAnd := by
  funext f g env
  unfold xbAnd bAnd
  simp only [bd_eq, bI_eq]
noncomputable def xbOr (f g : Nv → Option Bool) : Nv → Option Bool := fun env => bd (f env) fun c => bI c (some true) (g env)
theorem xbOr_eq : xbOr = bOr := by
  funext f g env
  unfold xbOr bOr
  simp only [bd_eq, bI_eq]
noncomputable def xiF (g : Nv → Option Bool) (f1 f2 : Nv → Option PyData) : Nv → Option PyData := fun env => bd (g env) fun c => bI c (f1 env) (f2 env)
theorem xiF_eq : xiF = iF := by
  funext g f1 f2 env
  unfold xiF iF
  simp only [bd_eq, bI_eq]
noncomputable def xvAnd (f g : Nv → Option PyData) : Nv → Option PyData := fun env => bd (f env) fun d => bd (xasB d) fun c => bI c (g env) (some (.bool false))
theorem xvAnd_eq : xvAnd = vAnd := by
  funext f g env
  unfold xvAnd vAnd
  simp only [bd_eq, bI_eq, xasB_eq]
noncomputable def xaCons (f : Nv → Option PyData) (g : Nv → Option (List PyData)) : Nv → Option (List PyData) := fun env => bd (f env) fun d => bd (g env) fun ds => some (d :: ds)
theorem xaCons_eq : xaCons = aCons := by
  funext f g env
  unfold xaCons aCons
  simp only [bd_eq]
noncomputable def xfCall (fs : Nv → Option (List PyData)) (F : List PyData → Option PyData) : Nv → Option PyData := fun env => bd (fs env) F
theorem xfCall_eq : xfCall = fCall := by
  funext fs F env
  exact bd_eq _ _
noncomputable def xfTup (fs : Nv → Option (List PyData)) : Nv → Option PyData := fun env => bd (fs env) fun ds => bI (Nat.ble (ln ds) 64) (some (.tuple ds)) none
theorem xfTup_eq : xfTup = fTup := by
  funext fs env
  unfold xfTup fTup
  simp only [bd_eq, bI_eq, ln_eq]
noncomputable def xbNm (i : Nat) : Bd := fun d env => frD d fun d => some (ls i (.fr d) env)
theorem xbNm_eq : xbNm = bNm := by
  funext i d env
  unfold xbNm bNm
  rw [frD_eq, ls_eq]
noncomputable def xbsCons (b : Bd) (bs : List PyData → Nv → Option Nv) : List PyData → Nv → Option Nv := fun ds env => List.rec none (fun d r _ => bd (b d env) (bs r)) ds
theorem xbsCons_eq : xbsCons = bsCons := by
  funext b bs ds env
  cases ds with
  | nil => rfl
  | cons d r => exact bd_eq _ _
noncomputable def xbTup (n : Nat) (bs : List PyData → Nv → Option Nv) : Bd := fun d env => dK d none (fun _ => none) (fun _ => none) (fun _ => none) (fun _ => none) (fun ds => bI (Nat.beq (ln ds) n) (bs ds env) none) (fun _ => none)
theorem xbTup_eq : xbTup = bTup := by
  funext n bs d env
  cases d with
  | tuple ds =>
    show bI (Nat.beq (ln ds) n) (bs ds env) none = if Nat.beq ds.length n then bs ds env else none
    rw [bI_eq, ln_eq]
  | _ => rfl
noncomputable def xsqOf (f : Nv → Option PyData) : Nv → Option (List PyData) := fun env => bd (f env) fun d => dK d none (fun _ => none) (fun _ => none) (fun _ => none) (fun ds => some ds) (fun ds => some ds) (fun _ => none)
theorem xsqOf_eq : xsqOf = sqOf := by
  funext f env
  unfold xsqOf sqOf
  rw [bd_eq]
  congr 1
  funext d
  cases d <;> rfl
/-! statements -/
noncomputable def oR {α : Type} (o : Out) (n : Nv → α) (r : PyData → α) : α := Out.rec n r o
noncomputable def xsCons (g g2 : Sx) : Sx := fun env => bd (g env) fun o => oR o (fun e => g2 e) (fun d => some (.rt d))
theorem xsCons_eq : xsCons = sCons := by
  funext g g2 env
  unfold xsCons sCons
  rw [bd_eq]
  congr 1
  funext o
  cases o <;> rfl
noncomputable def xsIf (c : Nv → Option Bool) (g g2 : Sx) : Sx := fun env => bd (c env) fun b => bI b (g env) (g2 env)
theorem xsIf_eq : xsIf = sIf := by
  funext c g g2 env
  unfold xsIf sIf
  simp only [bd_eq, bI_eq]
noncomputable def xsSet (i : Nat) (f : Nv → Option PyData) : Sx := fun env => bd (f env) fun d => frD d fun d => some (.nx (ls i (.fr d) env))
theorem xsSet_eq : xsSet = sSet := by
  funext i f env
  unfold xsSet sSet
  simp only [bd_eq, frD_eq, ls_eq]
noncomputable def xsSetO (i : Nat) (f : Nv → Option PyData) : Sx := fun env => bd (f env) fun d => some (.nx (ls i (.ow d) env))
theorem xsSetO_eq : xsSetO = sSetO := by
  funext i f env
  unfold xsSetO sSetO
  simp only [bd_eq, ls_eq]
noncomputable def xcO (o : Bool) (d : PyData) : Cell := bI o (.ow d) (.fr d)
theorem xcO_eq (o : Bool) (d : PyData) : xcO o d = cO o d := bI_eq _ _ _
noncomputable def xsPar2 (i j : Nat) (o1 o2 : Bool) (f1 f2 : Nv → Option PyData) : Sx := fun env => bd (f1 env) fun d1 => bd (f2 env) fun d2 => frD d1 fun d1 => frD d2 fun d2 => some (.nx (ls j (xcO o2 d2) (ls i (xcO o1 d1) env)))
theorem xsPar2_eq : xsPar2 = sPar2 := by
  funext i j o1 o2 f1 f2 env
  unfold xsPar2 sPar2
  simp only [bd_eq, frD_eq, ls_eq, xcO_eq]
noncomputable def xsPar3 (i j l : Nat) (o1 o2 o3 : Bool) (f1 f2 f3 : Nv → Option PyData) : Sx := fun env => bd (f1 env) fun d1 => bd (f2 env) fun d2 => bd (f3 env) fun d3 => frD d1 fun d1 => frD d2 fun d2 => frD d3 fun d3 => some (.nx (ls l (xcO o3 d3) (ls j (xcO o2 d2) (ls i (xcO o1 d1) env))))
theorem xsPar3_eq : xsPar3 = sPar3 := by
  funext i j l o1 o2 o3 f1 f2 f3 env
  unfold xsPar3 sPar3
  simp only [bd_eq, frD_eq, ls_eq, xcO_eq]
noncomputable def xsRet (f : Nv → Option PyData) : Sx := fun env => bd (f env) fun d => some (.rt d)
theorem xsRet_eq : xsRet = sRet := by
  funext f env
  unfold xsRet sRet
  rw [bd_eq]
  cases f env <;> rfl
noncomputable def xforF (b : Bd) (g : Sx) (ds : List PyData) : Sx := List.rec (fun env => some (.nx env)) (fun d _ ih env => bd (b d env) fun e1 => bd (g e1) fun o => oR o (fun e2 => ih e2) (fun r => some (.rt r))) ds
theorem xforF_eq (b : Bd) (g : Sx) : ∀ ds, xforF b g ds = forF b g ds
  | [] => by
    funext env
    rfl
  | d :: ds => by
    funext env
    show bd (b d env) (fun e1 => bd (g e1) fun o => oR o (fun e2 => xforF b g ds e2) (fun r => some (.rt r))) = _
    rw [xforF_eq b g ds, bd_eq]
    show _ = (b d env).bind _
    congr 1
    funext e1
    rw [bd_eq]
    congr 1
    funext o
    cases o <;> rfl
noncomputable def xsFor (fi : Nv → Option (List PyData)) (b : Bd) (g : Sx) : Sx := fun env => bd (fi env) fun ds => xforF b g ds env
theorem xsFor_eq : xsFor = sFor := by
  funext fi b g env
  unfold xsFor sFor
  simp only [bd_eq, xforF_eq]
noncomputable def xwhl (c : Nv → Option Bool) (g : Sx) (n : Nat) : Sx := Nat.rec (fun _ => none) (fun _ ih env => bd (c env) fun b => bI b (bd (g env) fun o => oR o (fun e => ih e) (fun d => some (.rt d))) (some (.nx env))) n
theorem xwhl_eq : xwhl = whileF := by
  funext c g n
  induction n with
  | zero =>
    funext env
    rfl
  | succ n ih =>
    funext env
    show bd (c env) (fun b => bI b (bd (g env) fun o => oR o (fun e => xwhl c g n e) (fun d => some (.rt d))) (some (.nx env))) = _
    rw [bd_eq]
    show _ = (c env).bind _
    congr 1
    funext b
    rw [bI_eq, bd_eq, ih]
    congr 1
    congr 1
    funext o
    cases o <;> rfl
noncomputable def xfz (i : Nat) (env : Nv) : Nv := Option.rec env (fun c => Cell.rec env (fun _ => env) (fun _ => env) (fun d => ls i (.fr d) env) c) (lg i env)
theorem xfz_eq (i : Nat) (env : Nv) : xfz i env = fz i env := by
  unfold xfz fz
  rw [lg_eq]
  cases env[i]? with
  | none => rfl
  | some c =>
    cases c with
    | ow d => exact ls_eq _ _ _
    | _ => rfl
noncomputable def xsFz (i : Nat) (g : Sx) : Sx := fun env => g (xfz i env)
theorem xsFz_eq : xsFz = sFz := by
  funext i g env
  unfold xsFz sFz
  rw [xfz_eq]
noncomputable def xsApp (i : Nat) (f : Nv → Option PyData) : Sx := fun env => bd (f env) fun d => bd (xnW i env) fun o => dK o none (fun _ => none) (fun _ => none) (fun _ => none) (fun ds => frD d fun d => bI (Nat.ble (ln ds) 100000) (some (.nx (ls i (.ow (.list (ds ++ [d]))) env))) none) (fun _ => none) (fun _ => none)
theorem xsApp_eq : xsApp = sApp := by
  funext i f env
  unfold xsApp sApp
  rw [bd_eq]
  congr 1
  funext d
  rw [xnW_eq, bd_eq]
  cases nW i env with
  | none => rfl
  | some o =>
    cases o with
    | list ds =>
      show frD d (fun d => bI (Nat.ble (ln ds) 100000) (some (Out.nx (ls i (.ow (.list (ds ++ [d]))) env))) none) = if Nat.ble ds.length 100000 then some (Out.nx (chg i env (.list (ds ++ [d])))) else none
      rw [frD_eq, bI_eq, ln_eq, ls_eq]
      rfl
    | _ => rfl
noncomputable def xsSt (i : Nat) (fk f : Nv → Option PyData) (pq : PyData → PyData → PyData → Option PyData) : Sx := fun env => bd (f env) fun d => frD d fun d => bd (xnW i env) fun o => bd (fk env) fun k => bd (pq o k d) fun o' => some (.nx (ls i (.ow o') env))
theorem xsSt_eq : xsSt = sSt := by
  funext i fk f pq env
  unfold xsSt sSt
  simp only [bd_eq, frD_eq, xnW_eq, ls_eq]
  congr 1
  funext d
  congr 1
  funext o
  congr 1
  funext k
  cases pq o k d <;> rfl
/-! comprehensions -/
noncomputable def xwp (env : Nv) (vs : List Nat) : Nv := List.rec env (fun v _ ih => ls v .un ih) vs
theorem xwp_eq (env : Nv) : ∀ vs, xwp env vs = wpN env vs
  | [] => rfl
  | v :: vs => by
    show ls v .un (xwp env vs) = (wpN env vs).set v .un
    rw [ls_eq, xwp_eq env vs]
noncomputable def xlc (b : Bd) (c : Nv → Option Bool) (f : Nv → Option PyData) (env : Nv) (ds : List PyData) : Option (List PyData) := List.rec (some []) (fun d _ ih => bd (b d env) fun e1 => bd (c e1) fun k => bI k (bd (f e1) fun r => bd ih fun t => frD r fun r => some (r :: t)) ih) ds
theorem xlc_eq (b : Bd) (c : Nv → Option Bool) (f : Nv → Option PyData) (env : Nv) : ∀ ds, xlc b c f env ds = lcF b c f env ds
  | [] => rfl
  | d :: ds => by
    show bd (b d env) (fun e1 => bd (c e1) fun k => bI k (bd (f e1) fun r => bd (xlc b c f env ds) fun t => frD r fun r => some (r :: t)) (xlc b c f env ds)) = (b d env).bind fun e1 => (c e1).bind fun k => if k then (f e1).bind fun r => (lcF b c f env ds).map (r :: ·) else lcF b c f env ds
    rw [xlc_eq b c f env ds, bd_eq]
    congr 1
    funext e1
    rw [bd_eq]
    congr 1
    funext k
    rw [bI_eq, bd_eq]
    congr 1
    congr 1
    funext r
    rw [bd_eq]
    cases lcF b c f env ds with
    | none => rfl
    | some t => exact frD_eq r fun r => some (r :: t)
noncomputable def xfLc (fi : Nv → Option (List PyData)) (b : Bd) (c : Nv → Option Bool) (f : Nv → Option PyData) (vs : List Nat) : Nv → Option PyData := fun env => bd (fi env) fun ds => bI (Nat.ble (ln ds) 100000) (bd (xlc b c f (xwp env vs) ds) fun rs => some (.list rs)) none
theorem xfLc_eq : xfLc = fLc := by
  funext fi b c f vs env
  unfold xfLc fLc
  rw [bd_eq]
  congr 1
  funext ds
  rw [bI_eq, ln_eq, bd_eq, xlc_eq, xwp_eq]
  congr 1
  cases lcF b c f (wpN env vs) ds <;> rfl

/-! ranges -/
noncomputable def xrg (lo c : Int) (n : Nat) : List PyData := Nat.rec (fun _ => []) (fun _ ih cur => frI cur fun cur => .int cur :: ih (iAdd cur c)) n lo
theorem xrg_at (lo c : Int) : ∀ (n i : Nat), xrg (lo + (i : Nat) * c) c n = rgD lo c n i
  | 0, _ => rfl
  | n + 1, i => by
    show frI (lo + (i : Nat) * c) (fun cur => PyData.int cur :: xrg (iAdd cur c) c n) = PyData.int (lo + (i : Nat) * c) :: rgD lo c n (i + 1)
    rw [frI_eq, ← xrg_at lo c n (i + 1), iAdd_eq]
    congr 2
    rw [show ((i + 1 : Nat) : Int) = (i : Int) + 1 from rfl, Int.add_mul, Int.one_mul, Int.add_assoc]
theorem xrg_eq (lo c : Int) (n : Nat) : xrg lo c n = rgD lo c n 0 := by
  rw [← xrg_at lo c n 0]
  congr 1
  rw [show ((0 : Nat) : Int) = 0 from rfl, Int.zero_mul, Int.add_zero]
noncomputable def xokR (i : Int) : Bool := Nat.ble (nAb i) 100000
theorem xokR_eq (i : Int) : xokR i = okR i := by
  unfold xokR okR
  rw [nAb_eq]
  cases h : (decide (-100000 ≤ i) && decide (i ≤ 100000)) with
  | true =>
    have q := Bool.and_eq_true_iff.mp h
    have q1 := of_decide_eq_true q.1
    have q2 := of_decide_eq_true q.2
    exact Nat.ble_eq_true_of_le (by omega)
  | false =>
    cases h2 : Nat.ble i.natAbs 100000 with
    | false => rfl
    | true =>
      have q := Nat.le_of_ble_eq_true h2
      rw [decide_eq_true (show (-100000 : Int) ≤ i by omega), decide_eq_true (show i ≤ (100000 : Int) by omega)] at h
      cases h
noncomputable def tN (i : Int) : Nat := Int.rec (fun n => n) (fun _ => 0) i
theorem tN_eq (i : Int) : tN i = i.toNat := by cases i <;> rfl
noncomputable def onN {α : Type} (a : PyData) (g : Int → Option α) : Option α := dK a none (fun _ => none) g (fun _ => none) (fun _ => none) (fun _ => none) (fun _ => none)
noncomputable def xr1 (f : Nv → Option PyData) : Nv → Option (List PyData) := fun env => bd (f env) fun a => onN a fun j => bI (xokR j) (some (xrg (Int.ofNat 0) (Int.ofNat 1) (tN j))) none
theorem xr1_eq : xr1 = r1Of := by
  funext f env
  unfold xr1 r1Of
  rw [bd_eq]
  congr 1
  funext a
  cases a with
  | int j =>
    show bI (xokR j) (some (xrg (Int.ofNat 0) (Int.ofNat 1) (tN j))) none = if okR j then some (rgD 0 1 j.toNat 0) else none
    rw [bI_eq, xokR_eq, xrg_eq, tN_eq]
    rfl
  | _ => rfl
noncomputable def xr2 (f1 f2 : Nv → Option PyData) : Nv → Option (List PyData) := fun env => bd (f1 env) fun a => bd (f2 env) fun b => onN a fun i => onN b fun j => bI (bI (xokR i) (xokR j) false) (some (xrg i (Int.ofNat 1) (tN (iSub j i)))) none
theorem xr2_eq : xr2 = r2Of := by
  funext f1 f2 env
  unfold xr2 r2Of
  rw [bd_eq]
  congr 1
  funext a
  rw [bd_eq]
  congr 1
  funext b
  cases a with
  | int i =>
    cases b with
    | int j =>
      show bI (bI (xokR i) (xokR j) false) (some (xrg i (Int.ofNat 1) (tN (iSub j i)))) none = if okR i && okR j then some (rgD i 1 (j - i).toNat 0) else none
      rw [bI_eq, bI_eq, xokR_eq, xokR_eq, xrg_eq, tN_eq, iSub_eq]
      cases okR i <;> cases okR j <;> rfl
    | _ => rfl
  | _ => cases b <;> rfl
noncomputable def xr3 (f1 f2 f3 : Nv → Option PyData) : Nv → Option (List PyData) := fun env => bd (f1 env) fun a => bd (f2 env) fun b => bd (f3 env) fun c => onN a fun i => onN b fun j => onN c fun k => bI (okR i && okR j && (decide (1 ≤ k) && decide (k ≤ 100000)) && (Builtin.Range.small i j k && decide (0 ≤ Builtin.Range.rangeSize i j k))) (some (xrg i k (tN (Builtin.Range.rangeSize i j k)))) none
theorem xr3_eq : xr3 = r3Of := by
  funext f1 f2 f3 env
  unfold xr3 r3Of
  rw [bd_eq]
  congr 1
  funext a
  rw [bd_eq]
  congr 1
  funext b
  rw [bd_eq]
  congr 1
  funext c
  cases a with
  | int i =>
    cases b with
    | int j =>
      cases c with
      | int k =>
        show bI (okR i && okR j && (decide (1 ≤ k) && decide (k ≤ 100000)) && (Builtin.Range.small i j k && decide (0 ≤ Builtin.Range.rangeSize i j k))) (some (xrg i k (tN (Builtin.Range.rangeSize i j k)))) none = rg3 (.int i) (.int j) (.int k)
        rw [bI_eq, xrg_eq, tN_eq]
        rfl
      | _ => rfl
    | _ => cases c <;> rfl
  | _ => cases b <;> cases c <;> rfl
noncomputable def xputQ (o k d : PyData) : Option PyData := dK o none (fun _ => none) (fun _ => none) (fun _ => none) (fun ds => onN k fun i => Int.rec (fun n => bd (lsO n d ds) fun t => some (.list t)) (fun _ => putQ o k d) i) (fun _ => none) (fun _ => none)
theorem xputQ_eq : xputQ = putQ := by
  funext o k d
  cases o with
  | list ds =>
    cases k with
    | int i =>
      cases i with
      | ofNat n =>
        show bd (lsO n d ds) (fun t => some (PyData.list t)) = match ixN ds.length (Int.ofNat n) with
          | some j => some (PyData.list (ds.set j d))
          | none => none
        rw [lsO_eq, bd_eq]
        unfold ixN
        have h1 : (0 : Int) ≤ Int.ofNat n := Int.natCast_nonneg n
        rw [if_pos h1]
        by_cases h : n < ds.length
        · rw [if_pos h, if_pos (show Int.ofNat n < (ds.length : Int) from Int.ofNat_lt.mpr h)]
          rfl
        · rw [if_neg h, if_neg (show ¬ Int.ofNat n < (ds.length : Int) from fun q => h (Int.ofNat_lt.mp q))]
          rfl
      | negSucc n => rfl
    | _ => rfl
  | _ => cases k <;> rfl
/-! the sum of products -/
noncomputable def xdot (ss rs : List PyData) : Option Int := List.rec (fun _ => some (Int.ofNat 0)) (fun y _ ih ss => List.rec none (fun x r _ => onN x fun a => onN y fun b => bI (Nat.blt (nAb a) 18446744073709551616) (bd (ih r) fun s => frI (iAdd (iMul a b) s) fun s => some s) none) ss) rs ss
theorem xdot_eq : ∀ rs ss, xdot ss rs = dotD ss rs
  | [], ss => by cases ss <;> rfl
  | y :: rs, [] => by cases y <;> rfl
  | y :: rs, x :: ss => by
    have ih := xdot_eq rs ss
    cases x with
    | int a =>
      cases y with
      | int b =>
        show bI (Nat.blt (nAb a) 18446744073709551616) (bd (xdot ss rs) fun s => frI (iAdd (iMul a b) s) fun s => some s) none = if Nat.blt a.natAbs 18446744073709551616 then (dotD ss rs).map fun s => a * b + s else none
        rw [bI_eq, nAb_eq, bd_eq, ih]
        congr 1
        cases dotD ss rs with
        | none => rfl
        | some s =>
          show frI (iAdd (iMul a b) s) (fun s => some s) = some (a * b + s)
          rw [frI_eq, iAdd_eq, iMul_eq]
      | _ => rfl
    | _ => cases y <;> rfl
noncomputable def rvA (ds acc : List PyData) : List PyData := List.rec (fun a => a) (fun d _ ih a => ih (d :: a)) ds acc
theorem rvA_eq : ∀ ds acc, rvA ds acc = ds.reverse ++ acc
  | [], acc => rfl
  | d :: ds, acc => by
    show rvA ds (d :: acc) = _
    rw [rvA_eq ds (d :: acc), List.reverse_cons, List.append_assoc]
    rfl
noncomputable def xfDotK (iS iF iP k : Nat) : Nv → Option PyData := fun env => bd (lg k env) fun _ => bd (xnQ iS env) fun a => bd (xnQ iF env) fun b => bd (xnQ iP env) fun c => dK a none (fun _ => none) (fun _ => none) (fun _ => none) (fun ss => List.rec none (fun _ ss _ => dK b none (fun _ => none) (fun _ => none) (fun _ => none) (fun fs => onN c fun p => bI (Nat.ble (ln fs) 99999) (bI (iEq p (Int.ofNat (ln fs))) (bd (xdot ss (rvA fs [])) fun s => some (.int s)) none) none) (fun _ => none) (fun _ => none)) ss) (fun _ => none) (fun _ => none)
theorem xfDotK_eq : xfDotK = fDotK := by
  funext iS iF iP k env
  unfold xfDotK fDotK fDot
  rw [bd_eq, lg_eq, xnQ_eq]
  cases env[k]? with
  | none => rfl
  | some c0 =>
    show bd (nQ iS env) _ = (match nQ iS env, nQ iF env, nQ iP env with
      | some (.list (_ :: ss)), some (.list fs), some (.int p) => if Nat.ble fs.length 99999 && decide (p = Int.ofNat fs.length) then (dotD ss fs.reverse).map PyData.int else none
      | _, _, _ => none)
    rw [bd_eq]
    cases nQ iS env with
    | none => rfl
    | some a =>
      rw [Option.bind_some, bd_eq]
      cases nQ iF env with
      | none => cases a with
        | list ss => cases ss <;> rfl
        | _ => rfl
      | some b =>
        rw [Option.bind_some, bd_eq]
        cases nQ iP env with
        | none => cases a with
          | list ss => cases ss <;> cases b <;> rfl
          | _ => cases b <;> rfl
        | some c =>
          rw [Option.bind_some]
          cases a with
          | list ss =>
            cases ss with
            | nil => cases b <;> rfl
            | cons s0 ss =>
              cases b with
              | list fs =>
                cases c with
                | int p =>
                  show bI (Nat.ble (ln fs) 99999) (bI (iEq p (Int.ofNat (ln fs))) (bd (xdot ss (rvA fs [])) fun s => some (PyData.int s)) none) none = if Nat.ble fs.length 99999 && decide (p = Int.ofNat fs.length) then (dotD ss fs.reverse).map PyData.int else none
                  rw [bI_eq, bI_eq, ln_eq, iEq_eq, bd_eq, xdot_eq, rvA_eq, List.append_nil]
                  cases Nat.ble fs.length 99999 with
                  | false => rfl
                  | true =>
                    cases decide (p = Int.ofNat fs.length) with
                    | false => rfl
                    | true => cases dotD ss fs.reverse <;> rfl
                | _ => rfl
              | _ => cases c <;> rfl
          | _ => cases b <;> cases c <;> rfl
noncomputable def xrunF (n m : Nat) (g : Sx) (ds : List PyData) : Option PyData := bI (Nat.beq (ln ds) m) (bd (g (startN n ds)) fun o => oR o (fun _ => some .none) (fun d => some d)) none
theorem xrunF_eq : xrunF = runF := by
  funext n m g ds
  unfold xrunF runF
  rw [bI_eq, ln_eq, bd_eq]
  congr 1
  congr 1
  funext o
  cases o <;> rfl
noncomputable def xrunO (n m : Nat) (g : Sx) (ds : List PyData) : Option PyData := bI (Nat.beq (ln ds) m) (bd (g (startN n ds)) fun o => oR o (fun _ => none) (fun d => some d)) none
theorem xrunO_eq : xrunO = runO := by
  funext n m g ds
  unfold xrunO runO
  rw [bI_eq, ln_eq, bd_eq]
  congr 1
  congr 1
  funext o
  cases o <;> rfl
end Q7

-- part Qf3
set_option Elab.async false
set_option linter.all false
set_option maxRecDepth 100000
/-! Qf3: defs told by a table of their arguments; two numbers' fraction told at once. -/
namespace Q7
open PySem PySem.Spec PyProof.Rows L2
mutual
def eqQ : PyData → PyData → Bool
  | .none, .none => true
  | .bool a, .bool b => a == b
  | .int a, .int b => decide (a = b)
  | .str a, .str b => decide (a = b)
  | .list a, .list b => eqQA a b
  | .tuple a, .tuple b => eqQA a b
  | .dict a, .dict b => eqQK a b
  | _, _ => false
def eqQA : List PyData → List PyData → Bool
  | [], [] => true
  | a :: r, b :: q => eqQ a b && eqQA r q
  | _, _ => false
def eqQK : List (PyData × PyData) → List (PyData × PyData) → Bool
  | [], [] => true
  | (a, c) :: r, (b, d) :: q => eqQ a b && (eqQ c d && eqQK r q)
  | _, _ => false
end
mutual
theorem eqQ_eq : ∀ a b : PyData, eqQ a b = true → a = b
  | .none, b, h => by cases b <;> first | rfl | (simp only [eqQ] at h; cases h)
  | .bool x, b, h => by
    cases b <;> first | (simp only [eqQ] at h; cases h; done) | skip
    exact congrArg _ (by simpa only [eqQ, beq_iff_eq] using h)
  | .int x, b, h => by
    cases b <;> first | (simp only [eqQ] at h; cases h; done) | skip
    exact congrArg _ (by simpa only [eqQ, decide_eq_true_eq] using h)
  | .str x, b, h => by
    cases b <;> first | (simp only [eqQ] at h; cases h; done) | skip
    exact congrArg _ (by simpa only [eqQ, decide_eq_true_eq] using h)
  | .list x, b, h => by
    cases b <;> first | (simp only [eqQ] at h; cases h; done) | skip
    exact congrArg _ (eqQA_eq x _ (by simpa only [eqQ] using h))
  | .tuple x, b, h => by
    cases b <;> first | (simp only [eqQ] at h; cases h; done) | skip
    exact congrArg _ (eqQA_eq x _ (by simpa only [eqQ] using h))
  | .dict x, b, h => by
    cases b <;> first | (simp only [eqQ] at h; cases h; done) | skip
    exact congrArg _ (eqQK_eq x _ (by simpa only [eqQ] using h))
theorem eqQA_eq : ∀ a b : List PyData, eqQA a b = true → a = b
  | [], b, h => by cases b <;> first | rfl | (simp only [eqQA] at h; cases h)
  | x :: a, b, h => by
    cases b with
    | nil => simp only [eqQA] at h; cases h
    | cons y b =>
      have h2 : eqQ x y = true ∧ eqQA a b = true := by simpa only [eqQA, Bool.and_eq_true] using h
      rw [eqQ_eq x y h2.1, eqQA_eq a b h2.2]
theorem eqQK_eq : ∀ a b : List (PyData × PyData), eqQK a b = true → a = b
  | [], b, h => by cases b <;> first | rfl | (simp only [eqQK] at h; cases h)
  | (x, u) :: a, b, h => by
    cases b with
    | nil => simp only [eqQK] at h; cases h
    | cons y b =>
      obtain ⟨y, v⟩ := y
      have h2 : eqQ x y = true ∧ (eqQ u v = true ∧ eqQK a b = true) := by simpa only [eqQK, Bool.and_eq_true] using h
      rw [eqQ_eq x y h2.1, eqQ_eq u v h2.2.1, eqQK_eq a b h2.2.2]
end
noncomputable def eqIn (i j : Int) : Bool := Int.rec (fun m => Int.rec (fun n => Nat.beq m n) (fun _ => false) j) (fun m => Int.rec (fun _ => false) (fun n => Nat.beq m n) j) i
theorem eqIn_eq : ∀ {i j : Int}, eqIn i j = true → i = j
  | .ofNat m, .ofNat n, h => congrArg Int.ofNat (Nat.eq_of_beq_eq_true h)
  | .ofNat _, .negSucc _, h => by cases h
  | .negSucc _, .ofNat _, h => by cases h
  | .negSucc m, .negSucc n, h => congrArg Int.negSucc (Nat.eq_of_beq_eq_true h)
noncomputable def isKI (k : Int) (d : PyData) : Bool := dK d false (fun _ => false) (fun i => eqIn k i) (fun _ => false) (fun _ => false) (fun _ => false) (fun _ => false)
theorem isKI_eq {k : Int} {d : PyData} (h : isKI k d = true) : d = .int k := by
  cases d with
  | int i => rw [eqIn_eq (show eqIn k i = true from h)]
  | _ => cases h
noncomputable def keyIs (ks : List Int) : List PyData → Bool := List.rec (fun ds => List.rec true (fun _ _ _ => false) ds) (fun k _ ih ds => List.rec false (fun d r _ => bI (isKI k d) (ih r) false) ds) ks
theorem keyIs_eq : ∀ {ks : List Int} {ds : List PyData}, keyIs ks ds = true → ds = ks.map .int
  | [], [], _ => rfl
  | [], _ :: _, h => by cases h
  | _ :: _, [], h => by cases h
  | k :: ks, d :: ds, h => by
    have h2 : bI (isKI k d) (keyIs ks ds) false = true := h
    rw [bI_eq] at h2
    split at h2
    · rename_i q
      rw [isKI_eq q, keyIs_eq h2]
      rfl
    · cases h2
noncomputable def look (tab : List (List Int × PyData)) (ds : List PyData) : Option PyData := List.rec none (fun p _ ih => bI (keyIs p.1 ds) (some p.2) ih) tab
theorem look_some {ds : List PyData} {d : PyData} : ∀ {tab : List (List Int × PyData)}, look tab ds = some d → ∃ p ∈ tab, ds = p.1.map .int ∧ d = p.2
  | [], h => by cases h
  | p :: tab, h => by
    have h2 : bI (keyIs p.1 ds) (some p.2) (look tab ds) = some d := h
    rw [bI_eq] at h2
    split at h2
    · rename_i q
      cases h2
      exact ⟨p, List.mem_cons_self, keyIs_eq q, rfl⟩
    · obtain ⟨q, h3, h4⟩ := look_some h2
      exact ⟨q, List.mem_cons_of_mem _ h3, h4⟩
/-- F, its values at some arguments told ahead -/
noncomputable def xtab (N F : List PyData → Option PyData) (ds : List PyData) : Option PyData := Option.rec (F ds) (fun d => some d) (N ds)
theorem xtab_of {N F : List PyData → Option PyData} (h : ∀ ds d, N ds = some d → F ds = some d) : xtab N F = F := by
  funext ds
  unfold xtab
  cases e : N ds with
  | none => rfl
  | some d => exact (h ds d e).symm
noncomputable def tabOk (tab : List (List Int × PyData)) (F : List PyData → Option PyData) : Bool := tab.all fun p => match F (p.1.map .int) with
  | some d => eqQ d p.2
  | none => false
theorem tab_eq {tab : List (List Int × PyData)} {F : List PyData → Option PyData} (h : tabOk tab F = true) : xtab (look tab) F = F := xtab_of fun ds d e => by
  obtain ⟨p, hp, rfl, rfl⟩ := look_some e
  have q := List.all_eq_true.mp h p hp
  split at q
  · rename_i d2 e2
    rw [e2, eqQ_eq _ _ q]
  · cases q
/-! two numbers -/
noncomputable def two (k : Int → Int → Option PyData) (ds : List PyData) : Option PyData := List.rec none (fun d r _ => List.rec none (fun e s _ => List.rec (dK d none (fun _ => none) (fun i => dK e none (fun _ => none) (fun j => k i j) (fun _ => none) (fun _ => none) (fun _ => none) (fun _ => none)) (fun _ => none) (fun _ => none) (fun _ => none) (fun _ => none)) (fun _ _ _ => none) s) r) ds
theorem two_some {k : Int → Int → Option PyData} {ds : List PyData} {d : PyData} (h : two k ds = some d) : ∃ i j, ds = [.int i, .int j] ∧ k i j = some d := by
  match ds, h with
  | [], h => cases h
  | [_], h => cases h
  | d1 :: d2 :: _ :: _, h => cases h
  | [d1, d2], h =>
    cases d1 with
    | int i =>
      cases d2 with
      | int j => exact ⟨i, j, rfl, h⟩
      | _ => cases h
    | _ => cases h
/-- both divided by the greatest common divisor, the second made positive; n: 0 - a // g (true) or a // (0 - g) -/
noncomputable def okDen (i j : Int) (g : Nat) : Bool := Nat.ble j.natAbs 1000000000000000000 && (Nat.blt 0 g && Nat.blt g 1073741824)
theorem okDen_b {i j : Int} {g : Nat} (h : okDen i j g = true) : Nat.ble j.natAbs 1000000000000000000 = true ∧ 0 < g ∧ g < 1073741824 := by
  obtain ⟨h1, h2⟩ := Bool.and_eq_true_iff.mp h
  obtain ⟨h2, h3⟩ := Bool.and_eq_true_iff.mp h2
  exact ⟨h1, Nat.blt_eq.mp h2, Nat.blt_eq.mp h3⟩
noncomputable def posI (j : Int) : Bool := Int.rec (fun n => Nat.blt 0 n) (fun _ => false) j
theorem posI_eq (j : Int) : posI j = decide (0 < j) := by
  cases j with
  | ofNat n =>
    show Nat.blt 0 n = _
    cases n with
    | zero => rfl
    | succ m => exact (decide_eq_true (show (0 : Int) < Int.ofNat (m + 1) from Int.natCast_pos.mpr (Nat.succ_pos m))).symm
  | negSucc n => exact (decide_eq_false (show ¬ (0 : Int) < Int.negSucc n from fun h => absurd h (by omega))).symm
noncomputable def kMade (i j : Int) : Option PyData := frN (Nat.gcd i.natAbs j.natAbs) fun g => bI (okDen i j g) (bI (posI j) (frI (i.fdiv (Int.ofNat g)) fun x => frI (j.fdiv (Int.ofNat g)) fun y => some (.tuple [.int x, .int y])) (frI (i.fdiv (0 - Int.ofNat g)) fun x => frI (j.fdiv (0 - Int.ofNat g)) fun y => some (.tuple [.int x, .int y]))) none
noncomputable def kLaw (i j : Int) : Option PyData := frN (Nat.gcd i.natAbs j.natAbs) fun g => bI (okDen i j g) (bI (posI j) (frI (i.fdiv (Int.ofNat g)) fun x => frI (j.fdiv (Int.ofNat g)) fun y => some (.tuple [.int x, .int y])) (frI (0 - i.fdiv (Int.ofNat g)) fun x => frI (0 - j.fdiv (Int.ofNat g)) fun y => some (.tuple [.int x, .int y]))) none
theorem nGcd_is {i j : Int} (h : Nat.ble j.natAbs 1000000000000000000 = true) : nGcd [.int i, .int j] = some (.int (Int.ofNat (Nat.gcd i.natAbs j.natAbs))) := by
  show (if Nat.ble j.natAbs 1000000000000000000 then _ else none) = _
  rw [h]
  rfl
theorem aDiv_is {i j : Int} (h : j ≠ 0) (h2 : j.natAbs < 1073741824) : aDiv (.int i) (.int j) = some (.int (i.fdiv j)) := by
  show (if decide (j ≠ 0) && Nat.blt j.natAbs 1073741824 then some (PyData.int (i.fdiv j)) else none) = _
  rw [decide_eq_true h, Nat.blt_eq.mpr h2]
  rfl
noncomputable def pr2 (d : PyData) (k : Int → Int → Option PyData) : Option PyData := dK d none (fun _ => none) (fun _ => none) (fun _ => none) (fun _ => none) (fun tu => two k tu) (fun _ => none)
theorem pr2_some {d : PyData} {k : Int → Int → Option PyData} {r : PyData} (h : pr2 d k = some r) : ∃ i j, d = .tuple [.int i, .int j] ∧ k i j = some r := by
  cases d with
  | tuple ds =>
    obtain ⟨i, j, e, q⟩ := two_some (show two k ds = some r from h)
    exact ⟨i, j, by rw [e], q⟩
  | _ => cases h
noncomputable def kPlus (a b c d : Int) : Option PyData := bI (okMul a d && (okMul c b && okMul b d)) (frI (Int.add (Int.mul a d) (Int.mul c b)) fun n => frI (Int.mul b d) fun e => kLaw n e) none
noncomputable def nPlus (ds : List PyData) : Option PyData := List.rec none (fun x r _ => List.rec none (fun y s _ => List.rec (pr2 x fun a b => pr2 y fun c d => kPlus a b c d) (fun _ _ _ => none) s) r) ds
theorem nPlus_some {ds : List PyData} {r : PyData} (h : nPlus ds = some r) : ∃ a b c d, ds = [.tuple [.int a, .int b], .tuple [.int c, .int d]] ∧ kPlus a b c d = some r := by
  match ds, h with
  | [], h => cases h
  | [_], h => cases h
  | d1 :: d2 :: _ :: _, h => cases h
  | [d1, d2], h =>
    obtain ⟨a, b, rfl, h2⟩ := pr2_some (show (pr2 d1 fun a b => pr2 d2 fun c d => kPlus a b c d) = some r from h)
    obtain ⟨c, d, rfl, h3⟩ := pr2_some h2
    exact ⟨a, b, c, d, rfl, h3⟩
theorem aMul_is {i j : Int} (h : okMul i j = true) : aMul (.int i) (.int j) = some (.int (i * j)) := by
  show (if okMul i j then some (PyData.int (i * j)) else none) = _
  rw [h]
  rfl
/-! a stretch of statements told ahead for some numbers -/
structure LowT where
  m : Int
  e : Int
  w : Int
  k : Int
  al : Int
  ll : Int
  d : PyData
def inE (p : LowT) (pw : PyData) : Nv := [.fr pw, .fr (.int p.m), .fr (.int p.e), .un, .un, .un, .fr (.int p.w), .fr (.int p.k), .fr .none, .un, .un, .un, .un]
def outE (p : LowT) (pw : PyData) : Nv := [.fr pw, .fr (.int p.m), .fr (.int p.e), .ow p.d, .fr (.int p.al), .un, .fr (.int p.w), .fr (.int p.k), .fr .none, .un, .un, .fr (.int p.ll), .un]
def lowKey : Nv → Option (PyData × List PyData)
  | [.fr pw, .fr m, .fr e, .un, .un, .un, .fr w, .fr k, .fr .none, .un, .un, .un, .un] => some (pw, [m, e, w, k])
  | _ => none
theorem lowKey_some {env : Nv} {q : PyData × List PyData} (h : lowKey env = some q) : ∃ pw m e w k, env = [.fr pw, .fr m, .fr e, .un, .un, .un, .fr w, .fr k, .fr .none, .un, .un, .un, .un] ∧ q = (pw, [m, e, w, k]) := by
  unfold lowKey at h
  split at h
  · cases h
    exact ⟨_, _, _, _, _, rfl, rfl⟩
  · cases h
noncomputable def lookL (tab : List LowT) (ds : List PyData) : Option LowT := List.rec none (fun p _ ih => bI (keyIs [p.m, p.e, p.w, p.k] ds) (some p) ih) tab
theorem lookL_some {ds : List PyData} {p : LowT} : ∀ {tab : List LowT}, lookL tab ds = some p → p ∈ tab ∧ ds = [.int p.m, .int p.e, .int p.w, .int p.k]
  | [], h => by cases h
  | r :: tab, h => by
    have h2 : bI (keyIs [r.m, r.e, r.w, r.k] ds) (some r) (lookL tab ds) = some p := h
    rw [bI_eq] at h2
    split at h2
    · rename_i q
      cases h2
      exact ⟨List.mem_cons_self, keyIs_eq q⟩
    · obtain ⟨h3, h4⟩ := lookL_some h2
      exact ⟨List.mem_cons_of_mem _ h3, h4⟩
noncomputable def oRec {α β : Type} (x : Option α) (b : β) (f : α → β) : β := Option.rec b f x
noncomputable def xlowB (tab : List LowT) (h : Sx) : Sx := fun env => oRec (lowKey env) (h env) fun q => oRec (lookL tab q.2) (h env) fun p => some (.nx (outE p q.1))
theorem xlowB_eq {tab : List LowT} {h : Sx} (hk : ∀ pw, tab.map (fun p => h (inE p pw)) = tab.map fun p => some (.nx (outE p pw))) : xlowB tab h = h := by
  funext env
  unfold xlowB
  cases e : lowKey env with
  | none => rfl
  | some q =>
    obtain ⟨pw, m, e0, w, k, rfl, rfl⟩ := lowKey_some e
    show oRec (lookL tab [m, e0, w, k]) _ _ = _
    cases e2 : lookL tab [m, e0, w, k] with
    | none => rfl
    | some p =>
      obtain ⟨h1, h2⟩ := lookL_some e2
      have h3 := List.map_inj_left.mp (hk pw) p h1
      injection h2 with i1 h2
      injection h2 with i2 h2
      injection h2 with i3 h2
      injection h2 with i4 h2
      subst i1 i2 i3 i4
      exact h3.symm
theorem sCons_assoc (a b c : Sx) : sCons (sCons a b) c = sCons a (sCons b c) := by
  funext env
  unfold sCons
  cases a env with
  | none => rfl
  | some o => cases o <;> rfl
end Q7

-- part Qf4
set_option Elab.async false
set_option linter.all false
set_option maxRecDepth 100000
/-! Qf4: a loop that changes a list's numbers in place, told at once. -/
namespace Q7
open PySem PySem.Spec PyProof.Rows L2
noncomputable def mdO (f : PyData → Option PyData) (n : Nat) : List PyData → Option (List PyData) := Nat.rec (fun l => List.rec none (fun x r _ => bd (f x) fun y => some (y :: r)) l) (fun _ ih l => List.rec none (fun x r _ => bd (ih r) fun t => some (x :: t)) l) n
theorem mdO_some {f : PyData → Option PyData} : ∀ {n : Nat} {l l' : List PyData}, mdO f n l = some l' → ∃ x y, l[n]? = some x ∧ f x = some y ∧ l' = l.set n y
  | 0, [], _, h => by cases h
  | 0, x :: r, l', h => by
    have h2 : bd (f x) (fun y => some (y :: r)) = some l' := h
    rw [bd_eq] at h2
    obtain ⟨y, e1, e2⟩ := Option.bind_eq_some_iff.mp h2
    cases e2
    exact ⟨x, y, rfl, e1, rfl⟩
  | n + 1, [], _, h => by cases h
  | n + 1, x :: r, l', h => by
    have h2 : bd (mdO f n r) (fun t => some (x :: t)) = some l' := h
    rw [bd_eq] at h2
    obtain ⟨t, e1, e2⟩ := Option.bind_eq_some_iff.mp h2
    cases e2
    obtain ⟨a, b, q1, q2, q3⟩ := mdO_some e1
    exact ⟨a, b, by rw [List.getElem?_cons_succ]; exact q1, q2, by rw [q3]; rfl⟩
noncomputable def natD {α : Type} (d : PyData) (k : Nat → Option α) : Option α := onN d fun i => Int.rec (fun n => k n) (fun _ => none) i
theorem natD_some {α : Type} {d : PyData} {k : Nat → Option α} {r : α} (h : natD d k = some r) : ∃ n, d = .int (Int.ofNat n) ∧ k n = some r := by
  cases d with
  | int i =>
    cases i with
    | ofNat n => exact ⟨n, rfl, h⟩
    | negSucc n => cases h
  | _ => cases h
noncomputable def opF (op : Int → Int → Int) (v : Int) (x : PyData) : Option PyData := onN x fun a => frI (op a v) fun s => some (.int s)
theorem opF_some {op : Int → Int → Int} {v : Int} {x y : PyData} (h : opF op v x = some y) : ∃ a, x = .int a ∧ y = .int (op a v) := by
  cases x with
  | int a =>
    have h2 : frI (op a v) (fun s => some (PyData.int s)) = some y := h
    rw [frI_eq] at h2
    cases h2
    exact ⟨a, rfl, rfl⟩
  | _ => cases h
noncomputable def mdAll (f : PyData → Option PyData) (ds : List PyData) : List PyData → Option (List PyData) := List.rec (fun xs => some xs) (fun d _ ih xs => natD d fun n => bd (mdO f n xs) ih) ds
/-- the last of d :: r -/
noncomputable def lastX (d : PyData) (r : List PyData) : PyData := List.rec (fun d => d) (fun e _ ih _ => ih e) r d
noncomputable def fin1 (k i : Nat) (env : Nv) (xs : List PyData) (ds : List PyData) : Nv := List.rec env (fun d r _ => ls i (.ow (.list xs)) (ls k (.fr (lastX d r)) env)) ds
def Iv (s : Nat) (f : Nv → Option PyData) : Prop := ∀ env c, f (env.set s c) = f env
theorem iv_nQ {s j : Nat} (h : s ≠ j) : Iv s (nQ j) := fun env c => by
  unfold nQ
  rw [List.getElem?_set_ne h]
theorem iv_b2 {s : Nat} {f g : Nv → Option PyData} {op : PyData → PyData → Option PyData} (h1 : Iv s f) (h2 : Iv s g) : Iv s (b2 f g op) := fun env c => by
  unfold b2
  rw [h1, h2]
section
variable {k i : Nat} {VAL : Nv → Option PyData} {op2 : PyData → PyData → Option PyData} {op : Int → Int → Int} {v : Int}
theorem set_swap {α : Type} (l : List α) {k i : Nat} (h : k ≠ i) (a b : α) : (l.set i a).set k b = (l.set k b).set i a := List.set_comm a b (Ne.symm h)
theorem st_turn (ki : k ≠ i) (hk : Iv k VAL) (ho : ∀ a v : Int, op2 (.int a) (.int v) = some (.int (op a v))) {env : Nv} {xs : List PyData} {n : Nat} {a : Int} (hi : env[i]? = some (.ow (.list xs))) (hl : k < env.length) (hv : VAL env = some (.int v)) (hx : xs[n]? = some (.int a)) :
    sSt i (nQ k) (b2 (b2 (nQ i) (nQ k) gIx) VAL op2) putQ (env.set k (.fr (.int (Int.ofNat n)))) = some (.nx ((env.set k (.fr (.int (Int.ofNat n)))).set i (.ow (.list (xs.set n (.int (op a v))))))) := by
  have e1 : (env.set k (.fr (.int (Int.ofNat n))))[i]? = some (.ow (.list xs)) := by rw [List.getElem?_set_ne ki]; exact hi
  have e2 : nQ i (env.set k (.fr (.int (Int.ofNat n)))) = some (.list xs) := by
    unfold nQ
    rw [e1]
  have e3 : nQ k (env.set k (.fr (.int (Int.ofNat n)))) = some (.int (Int.ofNat n)) := by
    unfold nQ
    rw [List.getElem?_set_self hl]
  have e4 : nW i (env.set k (.fr (.int (Int.ofNat n)))) = some (.list xs) := by
    unfold nW
    rw [e1]
  have ln : n < xs.length := (List.getElem?_eq_some_iff.mp hx).1
  have ei : ixN xs.length (Int.ofNat n) = some n := by
    unfold ixN
    rw [if_pos (show (0 : Int) ≤ Int.ofNat n from Int.natCast_nonneg n), if_pos (show Int.ofNat n < (xs.length : Int) from Int.ofNat_lt.mpr ln)]
    rfl
  have e5 : gIx (.list xs) (.int (Int.ofNat n)) = some (.int a) := by
    show atI xs (Int.ofNat n) = _
    unfold atI
    rw [ei]
    exact hx
  have e6 : putQ (.list xs) (.int (Int.ofNat n)) (.int (op a v)) = some (.list (xs.set n (.int (op a v)))) := by
    show (match ixN xs.length (Int.ofNat n) with
      | some j => some (PyData.list (xs.set j (.int (op a v))))
      | none => none) = _
    rw [ei]
  unfold sSt b2
  rw [e2, e3, hk, hv]
  show ((gIx (.list xs) (.int (Int.ofNat n))).bind fun x => op2 x (.int v)).bind _ = _
  rw [e5]
  show (op2 (.int a) (.int v)).bind _ = _
  rw [ho, e4]
  show ((putQ (.list xs) (.int (Int.ofNat n)) (.int (op a v))).map _) = _
  rw [e6]
  rfl
theorem st_loop (ki : k ≠ i) (hk : Iv k VAL) (hiv : Iv i VAL) (ho : ∀ a v : Int, op2 (.int a) (.int v) = some (.int (op a v))) : ∀ {ds : List PyData} {env : Nv} {xs xs' : List PyData}, env[i]? = some (.ow (.list xs)) → k < env.length → VAL env = some (.int v) → mdAll (opF op v) ds xs = some xs' →
    forF (bNm k) (sSt i (nQ k) (b2 (b2 (nQ i) (nQ k) gIx) VAL op2) putQ) ds env = some (.nx (fin1 k i env xs' ds))
  | [], env, xs, xs', _, _, _, _ => rfl
  | d :: r, env, xs, xs', hi, hl, hv, hm => by
    obtain ⟨n, rfl, h2⟩ := natD_some (show natD d (fun n => bd (mdO (opF op v) n xs) (mdAll (opF op v) r)) = some xs' from hm)
    rw [bd_eq] at h2
    obtain ⟨xs1, h3, h4⟩ := Option.bind_eq_some_iff.mp h2
    obtain ⟨x, y, q1, q2, q3⟩ := mdO_some h3
    obtain ⟨a, rfl, rfl⟩ := opF_some q2
    have il : i < env.length := (List.getElem?_eq_some_iff.mp hi).1
    have t := st_turn (op2 := op2) (op := op) ki hk ho hi hl hv q1
    rw [← q3] at t
    have h5 := st_loop ki hk hiv ho (ds := r) (env := (env.set k (.fr (.int (Int.ofNat n)))).set i (.ow (.list xs1))) (xs := xs1) (xs' := xs') (List.getElem?_set_self (by rw [List.length_set]; exact il)) (by rw [List.length_set, List.length_set]; exact hl) (by rw [hiv, hk]; exact hv) h4
    show (some (env.set k (.fr (.int (Int.ofNat n))))).bind _ = _
    show (sSt i (nQ k) (b2 (b2 (nQ i) (nQ k) gIx) VAL op2) putQ (env.set k (.fr (.int (Int.ofNat n))))).bind _ = _
    rw [t]
    refine h5.trans ?_
    congr 2
    cases r with
    | nil =>
      have e : xs1 = xs' := Option.some.inj h4
      subst e
      show _ = ls i _ (ls k _ env)
      rw [ls_eq, ls_eq]
      rfl
    | cons e r2 =>
      show ls i _ (ls k _ ((env.set k _).set i _)) = ls i _ (ls k _ env)
      rw [ls_eq, ls_eq, ls_eq, ls_eq, set_swap _ ki, List.set_set, List.set_set]
      rfl
noncomputable def fastSt (k i : Nat) (VAL : Nv → Option PyData) (op : Int → Int → Int) (ds : List PyData) (env : Nv) : Option Out := bI (Nat.blt k (ln env)) (bd (xnW i env) fun o => dK o none (fun _ => none) (fun _ => none) (fun _ => none) (fun xs => bd (VAL env) fun vd => onN vd fun v => frI v fun v => bd (mdAll (opF op v) ds xs) fun xs' => some (.nx (fin1 k i env xs' ds))) (fun _ => none) (fun _ => none)) none
theorem fastSt_ok (ki : k ≠ i) (hk : Iv k VAL) (hiv : Iv i VAL) (ho : ∀ a v : Int, op2 (.int a) (.int v) = some (.int (op a v))) {ds : List PyData} {env : Nv} {out : Out} (h : fastSt k i VAL op ds env = some out) : forF (bNm k) (sSt i (nQ k) (b2 (b2 (nQ i) (nQ k) gIx) VAL op2) putQ) ds env = some out := by
  unfold fastSt at h
  rw [bI_eq] at h
  split at h
  · rename_i hl
    rw [ln_eq] at hl
    rw [bd_eq] at h
    obtain ⟨o, e1, h⟩ := Option.bind_eq_some_iff.mp h
    rw [xnW_eq] at e1
    cases o with
    | list xs =>
      have h : bd (VAL env) (fun vd => onN vd fun v => frI v fun v => bd (mdAll (opF op v) ds xs) fun xs' => some (Out.nx (fin1 k i env xs' ds))) = some out := h
      rw [bd_eq] at h
      obtain ⟨vd, e2, h⟩ := Option.bind_eq_some_iff.mp h
      cases vd with
      | int v =>
        have h : frI v (fun v => bd (mdAll (opF op v) ds xs) fun xs' => some (Out.nx (fin1 k i env xs' ds))) = some out := h
        rw [frI_eq, bd_eq] at h
        obtain ⟨xs', e3, h⟩ := Option.bind_eq_some_iff.mp h
        cases h
        exact st_loop ki hk hiv ho (nW_at e1) (Nat.blt_eq.mp hl) e2 e3
      | _ => cases h
    | _ => cases h
  · cases h
/-- for k in fi: xs[k] = xs[k] op VAL -/
noncomputable def xForSt (k i : Nat) (fi : Nv → Option (List PyData)) (VAL : Nv → Option PyData) (op : Int → Int → Int) (slow : Sx) : Sx := fun env => oRec (bd (fi env) fun ds => fastSt k i VAL op ds env) (slow env) fun o => some o
theorem xForSt_eq {fi : Nv → Option (List PyData)} (ki : k ≠ i) (hk : Iv k VAL) (hiv : Iv i VAL) (ho : ∀ a v : Int, op2 (.int a) (.int v) = some (.int (op a v))) : xForSt k i fi VAL op (sFor fi (bNm k) (sSt i (nQ k) (b2 (b2 (nQ i) (nQ k) gIx) VAL op2) putQ)) = sFor fi (bNm k) (sSt i (nQ k) (b2 (b2 (nQ i) (nQ k) gIx) VAL op2) putQ) := by
  funext env
  unfold xForSt
  cases e : (bd (fi env) fun ds => fastSt k i VAL op ds env) with
  | none => rfl
  | some o =>
    rw [bd_eq] at e
    obtain ⟨ds, e1, e2⟩ := Option.bind_eq_some_iff.mp e
    show some o = sFor _ _ _ env
    unfold sFor
    rw [e1]
    exact (fastSt_ok ki hk hiv ho e2).symm
end
end Q7

-- part Ra
set_option Elab.async false
set_option linter.all false
set_option maxRecDepth 100000
set_option maxHeartbeats 0
namespace Q7
open PySem PySem.Spec PyProof.Rows L2
open C8 (Cal pe_c)
/-- the names of the module and the built-in ones -/
structure Mg (mg : Str → Option Value) : Prop where
  b_abs : mg "abs" = none
  b_all : mg "all" = none
  b_any : mg "any" = none
  b_bool : mg "bool" = none
  b_dict : mg "dict" = none
  b_divmod : mg "divmod" = none
  b_enumerate : mg "enumerate" = none
  b_int : mg "int" = none
  b_isinstance : mg "isinstance" = none
  b_len : mg "len" = none
  b_list : mg "list" = none
  b_max : mg "max" = none
  b_min : mg "min" = none
  b_range : mg "range" = none
  b_repr : mg "repr" = none
  b_set : mg "set" = none
  b_sorted : mg "sorted" = none
  b_str : mg "str" = none
  b_sum : mg "sum" = none
  b_tuple : mg "tuple" = none
  b_zip : mg "zip" = none
  c_BOUND_OF_DIGITS : ∃ t, mg "BOUND_OF_DIGITS" = some (.int k_BOUND_OF_DIGITS t)
  c_MOST_CHOICES : ∃ t, mg "MOST_CHOICES" = some (.int k_MOST_CHOICES t)
  c_MOST_LEVEL_divisors : ∃ t, mg "MOST_LEVEL_divisors" = some (.int k_MOST_LEVEL_divisors t)
  c_MOST_LEVEL_levels : ∃ t, mg "MOST_LEVEL_levels" = some (.int k_MOST_LEVEL_levels t)
  c_MOST_PLACE : ∃ t, mg "MOST_PLACE" = some (.int k_MOST_PLACE t)
  c_MOST_POWER : ∃ t, mg "MOST_POWER" = some (.int k_MOST_POWER t)
  c_MOST_REACHED : ∃ t, mg "MOST_REACHED" = some (.int k_MOST_REACHED t)
  c_MOST_SIZE : ∃ t, mg "MOST_SIZE" = some (.int k_MOST_SIZE t)
  c_MOST_STEPS : ∃ t, mg "MOST_STEPS" = some (.int k_MOST_STEPS t)
  c_MOST_STEP_orbits : ∃ t, mg "MOST_STEP_orbits" = some (.int k_MOST_STEP_orbits t)
  c_MOST_STEP_products : ∃ t, mg "MOST_STEP_products" = some (.int k_MOST_STEP_products t)
  c_MOST_TERMS : ∃ t, mg "MOST_TERMS" = some (.int k_MOST_TERMS t)
  c_ROUND : ∃ t, mg "ROUND" = some (.int k_ROUND t)
  c_SHIFT_UNDER : ∃ t, mg "SHIFT_UNDER" = some (.int k_SHIFT_UNDER t)
  c_WORD : ∃ t, mg "WORD" = some (.str k_WORD t)
abbrev CF (P : Program) (w : World) (K : PySem.W.Frag) (mg : Str → Option Value) (base : Heap) (k : Nat) (x : Str) (F : List PyData → Option PyData) : Prop := Cal P w K mg base k x (spF K (RF K) F) []
abbrev CO (P : Program) (w : World) (K : PySem.W.Frag) (mg : Str → Option Value) (base : Heap) (k : Nat) (x : Str) (F : List PyData → Option PyData) : Prop := Cal P w K mg base k x (spF K (RO K) F) []
end Q7

-- part Rb
set_option Elab.async false
set_option linter.all false
set_option maxRecDepth 100000
set_option maxHeartbeats 0
namespace Q7
open PySem PySem.Spec PyProof.Rows L2
open C8 (Cal pe_c)
section
variable {P : Program} {w : World} {K : PySem.W.Frag} {mg : Str → Option Value} {base : Heap} {f : Addr} {fd : FuncData}
noncomputable def g_is_integer : Sx := sRet (vAnd (u1 (nQ 0) isI) (u1 (u1 (nQ 0) isBo) vNot))
noncomputable def h_is_integer : Sx := xsRet (xvAnd (xu1 (xnQ 0) isI) (xu1 (xu1 (xnQ 0) isBo) vNot))
noncomputable def F_is_integer : List PyData → Option PyData := xrunF 1 1 h_is_integer
theorem hx_is_integer : F_is_integer = runF 1 1 g_is_integer := by
  unfold F_is_integer
  rw [xrunF_eq]
  congr 1
  unfold h_is_integer g_is_integer
  simp only [xnQ_eq, xsRet_eq, xu1_eq, xvAnd_eq]
theorem sc_is_integer : FnScope ["value"] ["value"] (defScope (top 13)) := ⟨rfl, rfl, rfl, by decide +kernel, rfl, by decide +kernel, by decide +kernel⟩
theorem cal_is_integer (M : Mg mg) (FD : FunD K "is_integer" "is_integer" (defArgs (top 13)) (defBody (top 13)) (defScope (top 13)) [] [] f fd) (hm : mg "is_integer" = some (.ref f))  : CF P w K mg base 1 "is_integer" F_is_integer := by
  rw [hx_is_integer]
  exact fn_F (g := g_is_integer) (k := 0) FD hm (FD.bindsN fun _ _ _ _ _ _ us hl => match us, hl with | [_], _ => rfl) sc_is_integer fun cdv A outer s H E hr =>
    have nd := sc_is_integer.nd
    have hu4 := room4 hr
    have hu5 := room5 hr
    l_one (s_retF (c_and (c_isInt rfl M.b_isinstance rfl M.b_int (c_nQ (pv 0))) (c_one (c_not (qF (c_isBool rfl M.b_isinstance rfl M.b_bool (c_nQ (pv 0))))))))
noncomputable def g_is_list : Sx := sRet (u1 (nQ 0) isLT)
noncomputable def h_is_list : Sx := xsRet (xu1 (xnQ 0) isLT)
noncomputable def F_is_list : List PyData → Option PyData := xrunF 1 1 h_is_list
theorem hx_is_list : F_is_list = runF 1 1 g_is_list := by
  unfold F_is_list
  rw [xrunF_eq]
  congr 1
  unfold h_is_list g_is_list
  simp only [xnQ_eq, xsRet_eq, xu1_eq]
theorem sc_is_list : FnScope ["value"] ["value"] (defScope (top 16)) := ⟨rfl, rfl, rfl, by decide +kernel, rfl, by decide +kernel, by decide +kernel⟩
theorem cal_is_list (M : Mg mg) (FD : FunD K "is_list" "is_list" (defArgs (top 16)) (defBody (top 16)) (defScope (top 16)) [] [] f fd) (hm : mg "is_list" = some (.ref f))  : CF P w K mg base 1 "is_list" F_is_list := by
  rw [hx_is_list]
  exact fn_F (g := g_is_list) (k := 0) FD hm (FD.bindsN fun _ _ _ _ _ _ us hl => match us, hl with | [_], _ => rfl) sc_is_list fun cdv A outer s H E hr =>
    have nd := sc_is_list.nd
    have hu4 := room4 hr
    have hu5 := room5 hr
    l_one (s_retF (c_isLT rfl M.b_isinstance rfl M.b_list rfl M.b_tuple (c_nQ (pv 0))))
noncomputable def g_want_at_most : Sx := sIf (oB (b2 (nQ 2) (nQ 1) cGt)) (sNo) (sNil)
noncomputable def h_want_at_most : Sx := xsIf (xoB (xb2 (xnQ 2) (xnQ 1) xGt)) (sNo) (sNil)
noncomputable def F_want_at_most : List PyData → Option PyData := xrunF 3 3 h_want_at_most
theorem hx_want_at_most : F_want_at_most = runF 3 3 g_want_at_most := by
  unfold F_want_at_most
  rw [xrunF_eq]
  congr 1
  unfold h_want_at_most g_want_at_most
  simp only [xGt_eq, xb2_eq, xnQ_eq, xoB_eq, xsIf_eq]
theorem sc_want_at_most : FnScope ["what", "limit", "number"] ["what", "limit", "number"] (defScope (top 17)) := ⟨rfl, rfl, rfl, by decide +kernel, rfl, by decide +kernel, by decide +kernel⟩
theorem cal_want_at_most (M : Mg mg) (FD : FunD K "want_at_most" "want_at_most" (defArgs (top 17)) (defBody (top 17)) (defScope (top 17)) [] [] f fd) (hm : mg "want_at_most" = some (.ref f))  : CF P w K mg base 1 "want_at_most" F_want_at_most := by
  rw [hx_want_at_most]
  exact fn_F (g := g_want_at_most) (k := 0) FD hm (FD.bindsN fun _ _ _ _ _ _ us hl => match us, hl with | [_, _, _], _ => rfl) sc_want_at_most fun cdv A outer s H E hr =>
    have nd := sc_want_at_most.nd
    have hu4 := room4 hr
    have hu5 := room5 hr
    l_one (s_if (b_gt (c_nQ (pv 2)) (c_nQ (pv 1))) (l_no) (l_nil))
noncomputable def g_greatest_common : Sx := sCons (sPar2 2 3 false false (u1 (nQ 0) gAbs) (u1 (nQ 1) gAbs)) (sCons (whileF (oB (b2 (nQ 3) (kD (.int 0)) cNe)) (sPar2 2 3 false false (nF 3) (b2 (nQ 2) (nQ 3) aMod)) 3000) (sRet (nF 2)))
noncomputable def h_greatest_common : Sx := xsCons (xsPar2 2 3 false false (xu1 (xnQ 0) xAbs) (xu1 (xnQ 1) xAbs)) (xsCons (xwhl (xoB (xb2 (xnQ 3) (kD (.int 0)) xNe)) (xsPar2 2 3 false false (xnF 3) (xb2 (xnQ 2) (xnQ 3) xMod)) 3000) (xsRet (xnF 2)))
noncomputable def F_greatest_common : List PyData → Option PyData := xrunF 4 2 h_greatest_common
theorem hx_greatest_common : F_greatest_common = runF 4 2 g_greatest_common := by
  unfold F_greatest_common
  rw [xrunF_eq]
  congr 1
  unfold h_greatest_common g_greatest_common
  simp only [xAbs_eq, xMod_eq, xNe_eq, xb2_eq, xnF_eq, xnQ_eq, xoB_eq, xsCons_eq, xsPar2_eq, xsRet_eq, xu1_eq, xwhl_eq]
theorem sc_greatest_common : FnScope ["first", "second", "near", "far"] ["first", "second"] (defScope (top 20)) := ⟨rfl, rfl, rfl, by decide +kernel, rfl, by decide +kernel, by decide +kernel⟩
theorem cal_greatest_common (M : Mg mg) (FD : FunD K "greatest_common" "greatest_common" (defArgs (top 20)) (defBody (top 20)) (defScope (top 20)) [] [] f fd) (hm : mg "greatest_common" = some (.ref f))  : CF P w K mg base 1 "greatest_common" F_greatest_common := by
  rw [hx_greatest_common]
  exact fn_F (g := g_greatest_common) (k := 0) FD hm (FD.bindsN fun _ _ _ _ _ _ us hl => match us, hl with | [_, _], _ => rfl) sc_greatest_common fun cdv A outer s H E hr =>
    have nd := sc_greatest_common.nd
    have hu4 := room4 hr
    have hu5 := room5 hr
    l_cons (s_par2 (o1 := false) (o2 := false) (i := 2) (j := 3) rfl nd rfl rfl (by decide) rfl rfl (c_abs rfl M.b_abs (c_nQ (pv 0))) (c_abs rfl M.b_abs (c_nQ (pv 1))) rfl) (l_cons (s_while PassesOwn.never (b_ne hu4 (c_nQ (pv 3)) (qF (c_int))) (l_one (s_par2 (o1 := false) (o2 := false) (i := 2) (j := 3) rfl nd rfl rfl (by decide) rfl rfl (c_nF (pv 3)) (c_mod (c_nQ (pv 2)) (c_nQ (pv 3))) rfl))) (l_one (s_retF (c_nF (pv 2)))))
noncomputable def g_divisors_in : Sx := sCons (sPar3 1 2 3 true true false (fLst (aNil)) (fLst (aNil)) (kD (.int 1))) (sCons (whileF (oB (b2 (b2 (nQ 3) (nQ 3) aMul) (nQ 0) cLe)) (sCons (sIf (oB (b2 (b2 (nQ 0) (nQ 3) aMod) (kD (.int 0)) cEq)) (sCons (sApp 1 (nF 3)) (sIf (oB (b2 (b2 (nQ 3) (nQ 3) aMul) (nQ 0) cLt)) (sApp 2 (b2 (nQ 0) (nQ 3) aDiv)) (sNil))) (sNil)) (sSet 3 (b2 (nQ 3) (kD (.int 1)) aAdd))) 3000) (sRet (b2 (nW 1) (u1 (nQ 2) aRev) aCatL)))
noncomputable def h_divisors_in : Sx := xsCons (xsPar3 1 2 3 true true false (fLst (aNil)) (fLst (aNil)) (kD (.int 1))) (xsCons (xwhl (xoB (xb2 (xb2 (xnQ 3) (xnQ 3) xMul) (xnQ 0) xLe)) (xsCons (xsIf (xoB (xb2 (xb2 (xnQ 0) (xnQ 3) xMod) (kD (.int 0)) xEq)) (xsCons (xsApp 1 (xnF 3)) (xsIf (xoB (xb2 (xb2 (xnQ 3) (xnQ 3) xMul) (xnQ 0) xLt)) (xsApp 2 (xb2 (xnQ 0) (xnQ 3) xDiv)) (sNil))) (sNil)) (xsSet 3 (xb2 (xnQ 3) (kD (.int 1)) xAdd))) 3000) (xsRet (xb2 (xnW 1) (xu1 (xnQ 2) aRev) aCatL)))
noncomputable def F_divisors_in : List PyData → Option PyData := xrunF 4 1 h_divisors_in
theorem hx_divisors_in : F_divisors_in = runF 4 1 g_divisors_in := by
  unfold F_divisors_in
  rw [xrunF_eq]
  congr 1
  unfold h_divisors_in g_divisors_in
  simp only [xAdd_eq, xDiv_eq, xEq_eq, xLe_eq, xLt_eq, xMod_eq, xMul_eq, xb2_eq, xnF_eq, xnQ_eq, xnW_eq, xoB_eq, xsApp_eq, xsCons_eq, xsIf_eq, xsPar3_eq, xsRet_eq, xsSet_eq, xu1_eq, xwhl_eq]
noncomputable def tab_divisors_in : List (List Int × PyData) := [([Int.ofNat 1], .list [.int (Int.ofNat 1)]), ([Int.ofNat 2], .list [.int (Int.ofNat 1), .int (Int.ofNat 2)]), ([Int.ofNat 3], .list [.int (Int.ofNat 1), .int (Int.ofNat 3)]), ([Int.ofNat 4], .list [.int (Int.ofNat 1), .int (Int.ofNat 2), .int (Int.ofNat 4)]), ([Int.ofNat 5], .list [.int (Int.ofNat 1), .int (Int.ofNat 5)]), ([Int.ofNat 6], .list [.int (Int.ofNat 1), .int (Int.ofNat 2), .int (Int.ofNat 3), .int (Int.ofNat 6)]), ([Int.ofNat 7], .list [.int (Int.ofNat 1), .int (Int.ofNat 7)]), ([Int.ofNat 8], .list [.int (Int.ofNat 1), .int (Int.ofNat 2), .int (Int.ofNat 4), .int (Int.ofNat 8)]), ([Int.ofNat 10], .list [.int (Int.ofNat 1), .int (Int.ofNat 2), .int (Int.ofNat 5), .int (Int.ofNat 10)]), ([Int.ofNat 12], .list [.int (Int.ofNat 1), .int (Int.ofNat 2), .int (Int.ofNat 3), .int (Int.ofNat 4), .int (Int.ofNat 6), .int (Int.ofNat 12)]), ([Int.ofNat 15], .list [.int (Int.ofNat 1), .int (Int.ofNat 3), .int (Int.ofNat 5), .int (Int.ofNat 15)]), ([Int.ofNat 24], .list [.int (Int.ofNat 1), .int (Int.ofNat 2), .int (Int.ofNat 3), .int (Int.ofNat 4), .int (Int.ofNat 6), .int (Int.ofNat 8), .int (Int.ofNat 12), .int (Int.ofNat 24)])]
noncomputable def T_divisors_in : List PyData → Option PyData := xtab (look tab_divisors_in) F_divisors_in
theorem T_divisors_in_eq : T_divisors_in = F_divisors_in := tab_eq (by kernel_rfl)
theorem sc_divisors_in : FnScope ["number", "low", "high", "trial"] ["number"] (defScope (top 22)) := ⟨rfl, rfl, rfl, by decide +kernel, rfl, by decide +kernel, by decide +kernel⟩
theorem cal_divisors_in (M : Mg mg) (FD : FunD K "divisors_in" "divisors_in" (defArgs (top 22)) (defBody (top 22)) (defScope (top 22)) [] [] f fd) (hm : mg "divisors_in" = some (.ref f))  : CF P w K mg base 1 "divisors_in" F_divisors_in := by
  rw [hx_divisors_in]
  exact fn_F (g := g_divisors_in) (k := 0) FD hm (FD.bindsN fun _ _ _ _ _ _ us hl => match us, hl with | [_], _ => rfl) sc_divisors_in fun cdv A outer s H E hr =>
    have nd := sc_divisors_in.nd
    have hu4 := room4 hr
    have hu5 := room5 hr
    l_cons (s_par3 (o1 := true) (o2 := true) (o3 := false) (i := 1) (j := 2) (l := 3) rfl nd rfl rfl rfl (by decide) (by decide) (by decide) rfl rfl rfl (c_lst (a_nil)) (c_lst (a_nil)) (c_int) rfl) (l_cons (s_while PassesOwn.never (b_le (qF (c_mul (c_nQ (pv 3)) (c_nQ (pv 3)))) (c_nQ (pv 0))) (l_cons (s_if (b_eq hu4 (qF (c_mod (c_nQ (pv 0)) (c_nQ (pv 3)))) (qF (c_int))) (l_cons (s_app (pe_bm PySem.F.plainAttrs_list PySem.F.slot_list_append PySem.F.type_list_append mt_append (pv 1) (pa_cons (c_nF (pv 3)) pa_nil))) (l_one (s_if (b_lt (qF (c_mul (c_nQ (pv 3)) (c_nQ (pv 3)))) (c_nQ (pv 0))) (l_one (s_app (pe_bm PySem.F.plainAttrs_list PySem.F.slot_list_append PySem.F.type_list_append mt_append (pv 2) (pa_cons (c_div (c_nQ (pv 0)) (c_nQ (pv 3))) pa_nil)))) (l_nil)))) (l_nil)) (l_one (s_setF (i := 3) nd rfl (Or.inl rfl) (c_add (c_nQ (pv 3)) (qF (c_int))))))) (l_one (s_retF (fO (c_catL (c_nW (pv 1)) (wO (c_rev (c_nQ (pv 2)))))))))
noncomputable def g_primes_in : Sx := sCons (sPar3 1 2 3 true false false (fLst (aNil)) (nF 0) (kD (.int 2))) (sCons (whileF (oB (b2 (nQ 2) (kD (.int 1)) cGt)) (sCons (sIf (oB (b2 (b2 (nQ 3) (nQ 3) aMul) (nQ 2) cGt)) (sSet 3 (nF 2)) (sNil)) (sCons (sSet 4 (kD (.int 0))) (sCons (whileF (oB (b2 (b2 (nQ 2) (nQ 3) aMod) (kD (.int 0)) cEq)) (sCons (sSet 2 (b2 (nQ 2) (nQ 3) aDiv)) (sSet 4 (b2 (nQ 4) (kD (.int 1)) aAdd))) 3000) (sCons (sIf (oB (b2 (nQ 4) (kD (.int 0)) cGt)) (sApp 1 (fTup (aCons (nF 3) (aCons (nF 4) (aNil))))) (sNil)) (sSet 3 (b2 (nQ 3) (kD (.int 1)) aAdd)))))) 3000) (sFz 1 (sRet (nF 1))))
noncomputable def h_primes_in : Sx := xsCons (xsPar3 1 2 3 true false false (fLst (aNil)) (xnF 0) (kD (.int 2))) (xsCons (xwhl (xoB (xb2 (xnQ 2) (kD (.int 1)) xGt)) (xsCons (xsIf (xoB (xb2 (xb2 (xnQ 3) (xnQ 3) xMul) (xnQ 2) xGt)) (xsSet 3 (xnF 2)) (sNil)) (xsCons (xsSet 4 (kD (.int 0))) (xsCons (xwhl (xoB (xb2 (xb2 (xnQ 2) (xnQ 3) xMod) (kD (.int 0)) xEq)) (xsCons (xsSet 2 (xb2 (xnQ 2) (xnQ 3) xDiv)) (xsSet 4 (xb2 (xnQ 4) (kD (.int 1)) xAdd))) 3000) (xsCons (xsIf (xoB (xb2 (xnQ 4) (kD (.int 0)) xGt)) (xsApp 1 (xfTup (xaCons (xnF 3) (xaCons (xnF 4) (aNil))))) (sNil)) (xsSet 3 (xb2 (xnQ 3) (kD (.int 1)) xAdd)))))) 3000) (xsFz 1 (xsRet (xnF 1))))
noncomputable def F_primes_in : List PyData → Option PyData := xrunF 5 1 h_primes_in
theorem hx_primes_in : F_primes_in = runF 5 1 g_primes_in := by
  unfold F_primes_in
  rw [xrunF_eq]
  congr 1
  unfold h_primes_in g_primes_in
  simp only [xAdd_eq, xDiv_eq, xEq_eq, xGt_eq, xMod_eq, xMul_eq, xaCons_eq, xb2_eq, xfTup_eq, xnF_eq, xnQ_eq, xoB_eq, xsApp_eq, xsCons_eq, xsFz_eq, xsIf_eq, xsPar3_eq, xsRet_eq, xsSet_eq, xwhl_eq]
noncomputable def tab_primes_in : List (List Int × PyData) := [([Int.ofNat 1], .list []), ([Int.ofNat 2], .list [.tuple [.int (Int.ofNat 2), .int (Int.ofNat 1)]]), ([Int.ofNat 3], .list [.tuple [.int (Int.ofNat 3), .int (Int.ofNat 1)]]), ([Int.ofNat 4], .list [.tuple [.int (Int.ofNat 2), .int (Int.ofNat 2)]]), ([Int.ofNat 5], .list [.tuple [.int (Int.ofNat 5), .int (Int.ofNat 1)]]), ([Int.ofNat 6], .list [.tuple [.int (Int.ofNat 2), .int (Int.ofNat 1)], .tuple [.int (Int.ofNat 3), .int (Int.ofNat 1)]]), ([Int.ofNat 7], .list [.tuple [.int (Int.ofNat 7), .int (Int.ofNat 1)]]), ([Int.ofNat 8], .list [.tuple [.int (Int.ofNat 2), .int (Int.ofNat 3)]]), ([Int.ofNat 10], .list [.tuple [.int (Int.ofNat 2), .int (Int.ofNat 1)], .tuple [.int (Int.ofNat 5), .int (Int.ofNat 1)]]), ([Int.ofNat 12], .list [.tuple [.int (Int.ofNat 2), .int (Int.ofNat 2)], .tuple [.int (Int.ofNat 3), .int (Int.ofNat 1)]]), ([Int.ofNat 15], .list [.tuple [.int (Int.ofNat 3), .int (Int.ofNat 1)], .tuple [.int (Int.ofNat 5), .int (Int.ofNat 1)]]), ([Int.ofNat 24], .list [.tuple [.int (Int.ofNat 2), .int (Int.ofNat 3)], .tuple [.int (Int.ofNat 3), .int (Int.ofNat 1)]])]
noncomputable def T_primes_in : List PyData → Option PyData := xtab (look tab_primes_in) F_primes_in
theorem T_primes_in_eq : T_primes_in = F_primes_in := tab_eq (by kernel_rfl)
theorem sc_primes_in : FnScope ["number", "found", "left", "trial", "often"] ["number"] (defScope (top 23)) := ⟨rfl, rfl, rfl, by decide +kernel, rfl, by decide +kernel, by decide +kernel⟩
theorem cal_primes_in (M : Mg mg) (FD : FunD K "primes_in" "primes_in" (defArgs (top 23)) (defBody (top 23)) (defScope (top 23)) [] [] f fd) (hm : mg "primes_in" = some (.ref f))  : CF P w K mg base 1 "primes_in" F_primes_in := by
  rw [hx_primes_in]
  exact fn_F (g := g_primes_in) (k := 0) FD hm (FD.bindsN fun _ _ _ _ _ _ us hl => match us, hl with | [_], _ => rfl) sc_primes_in fun cdv A outer s H E hr =>
    have nd := sc_primes_in.nd
    have hu4 := room4 hr
    have hu5 := room5 hr
    l_cons (s_par3 (o1 := true) (o2 := false) (o3 := false) (i := 1) (j := 2) (l := 3) rfl nd rfl rfl rfl (by decide) (by decide) (by decide) rfl rfl rfl (c_lst (a_nil)) (c_nF (pv 0)) (c_int) rfl) (l_cons (s_while PassesOwn.never (b_gt (c_nQ (pv 2)) (qF (c_int))) (l_cons (s_if (b_gt (qF (c_mul (c_nQ (pv 3)) (c_nQ (pv 3)))) (c_nQ (pv 2))) (l_one (s_setF (i := 3) nd rfl (Or.inl rfl) (c_nF (pv 2)))) (l_nil)) (l_cons (s_setF (i := 4) nd rfl (Or.inl rfl) (c_int)) (l_cons (s_while PassesOwn.never (b_eq hu4 (qF (c_mod (c_nQ (pv 2)) (c_nQ (pv 3)))) (qF (c_int))) (l_cons (s_setF (i := 2) nd rfl (Or.inl rfl) (c_div (c_nQ (pv 2)) (c_nQ (pv 3)))) (l_one (s_setF (i := 4) nd rfl (Or.inl rfl) (c_add (c_nQ (pv 4)) (qF (c_int))))))) (l_cons (s_if (b_gt (c_nQ (pv 4)) (qF (c_int))) (l_one (s_app (pe_bm PySem.F.plainAttrs_list PySem.F.slot_list_append PySem.F.type_list_append mt_append (pv 1) (pa_cons (c_tup (a_cons (c_nF (pv 3)) (a_cons (c_nF (pv 4)) (a_nil)))) pa_nil)))) (l_nil)) (l_one (s_setF (i := 3) nd rfl (Or.inl rfl) (c_add (c_nQ (pv 3)) (qF (c_int)))))))))) (l_one (s_fz 1 (s_retF (c_nF (pv 1))))))
noncomputable def g_powers_of : Sx := sRet (u1 (fLc (sqOf (b2 (nQ 0) (kD (.int 1)) gIx)) (bTup 2 (bsCons (bNm 1) (bsCons (bNm 2) (bsNil)))) (bYes) (fTup (aCons (nF 1) (aCons (nF 2) (aNil)))) [1, 2]) gDict)
noncomputable def h_powers_of : Sx := xsRet (xu1 (xfLc (xsqOf (xb2 (xnQ 0) (kD (.int 1)) xIx)) (xbTup 2 (xbsCons (xbNm 1) (xbsCons (xbNm 2) (bsNil)))) (bYes) (xfTup (xaCons (xnF 1) (xaCons (xnF 2) (aNil)))) [1, 2]) gDict)
noncomputable def F_powers_of : List PyData → Option PyData := xrunO 3 1 h_powers_of
theorem hx_powers_of : F_powers_of = runO 3 1 g_powers_of := by
  unfold F_powers_of
  rw [xrunO_eq]
  congr 1
  unfold h_powers_of g_powers_of
  simp only [xIx_eq, xaCons_eq, xb2_eq, xbNm_eq, xbTup_eq, xbsCons_eq, xfLc_eq, xfTup_eq, xnF_eq, xnQ_eq, xsRet_eq, xsqOf_eq, xu1_eq]
theorem sc_powers_of : FnScope ["product", "step", "power"] ["product"] (defScope (top 35)) := ⟨rfl, rfl, rfl, by decide +kernel, rfl, by decide +kernel, by decide +kernel⟩
theorem cal_powers_of (M : Mg mg) (FD : FunD K "powers_of" "powers_of" (defArgs (top 35)) (defBody (top 35)) (defScope (top 35)) [] [] f fd) (hm : mg "powers_of" = some (.ref f))  : CO P w K mg base 1 "powers_of" F_powers_of := by
  rw [hx_powers_of]
  exact fn_O (g := g_powers_of) (k := 0) FD hm (FD.bindsN fun _ _ _ _ _ _ us hl => match us, hl with | [_], _ => rfl) sc_powers_of fun cdv A outer s H E hr =>
    have nd := sc_powers_of.nd
    have hu4 := room4 hr
    have hu5 := room5 hr
    l_one (s_retO (c_dict rfl rfl M.b_dict (qO (c_lc (own := [("step", 1), ("power", 2)]) rfl nd (i_sq (c_ix hu4 (c_nQ (pv 0)) (qF (c_int)) (fun _ _ => rfl))) (blkOk_by (N := ["product", "step", "power"]) (sc := defScope (top 35)) (by decide +kernel)) (fun _ _ _ _ _ => g_tup rfl (gs_cons (g_nm (pg_name nd rfl (by first | exact Or.inl rfl | exact Or.inr rfl) (i := 1))) (gs_cons (g_nm (pg_name nd rfl (by first | exact Or.inl rfl | exact Or.inr rfl) (i := 2))) (gs_nil)))) (fun _ _ _ _ _ => t_nil) (fun _ _ _ _ _ => c_tup (a_cons (c_nF (pv 1)) (a_cons (c_nF (pv 2)) (a_nil)))) (by decide)))))
noncomputable def g_is_less_ratio : Sx := sRet (b2 (b2 (b2 (nQ 0) (kD (.int 0)) gIx) (b2 (nQ 1) (kD (.int 1)) gIx) aMul) (b2 (b2 (nQ 1) (kD (.int 0)) gIx) (b2 (nQ 0) (kD (.int 1)) gIx) aMul) cLt)
noncomputable def h_is_less_ratio : Sx := xsRet (xb2 (xb2 (xb2 (xnQ 0) (kD (.int 0)) xIx) (xb2 (xnQ 1) (kD (.int 1)) xIx) xMul) (xb2 (xb2 (xnQ 1) (kD (.int 0)) xIx) (xb2 (xnQ 0) (kD (.int 1)) xIx) xMul) xLt)
noncomputable def F_is_less_ratio : List PyData → Option PyData := xrunF 2 2 h_is_less_ratio
theorem hx_is_less_ratio : F_is_less_ratio = runF 2 2 g_is_less_ratio := by
  unfold F_is_less_ratio
  rw [xrunF_eq]
  congr 1
  unfold h_is_less_ratio g_is_less_ratio
  simp only [xIx_eq, xLt_eq, xMul_eq, xb2_eq, xnQ_eq, xsRet_eq]
theorem sc_is_less_ratio : FnScope ["one", "other"] ["one", "other"] (defScope (top 40)) := ⟨rfl, rfl, rfl, by decide +kernel, rfl, by decide +kernel, by decide +kernel⟩
theorem cal_is_less_ratio (M : Mg mg) (FD : FunD K "is_less_ratio" "is_less_ratio" (defArgs (top 40)) (defBody (top 40)) (defScope (top 40)) [] [] f fd) (hm : mg "is_less_ratio" = some (.ref f))  : CF P w K mg base 1 "is_less_ratio" F_is_less_ratio := by
  rw [hx_is_less_ratio]
  exact fn_F (g := g_is_less_ratio) (k := 0) FD hm (FD.bindsN fun _ _ _ _ _ _ us hl => match us, hl with | [_, _], _ => rfl) sc_is_less_ratio fun cdv A outer s H E hr =>
    have nd := sc_is_less_ratio.nd
    have hu4 := room4 hr
    have hu5 := room5 hr
    l_one (s_retF (c_lt (qF (c_mul (qF (c_ix hu4 (c_nQ (pv 0)) (qF (c_int)) (fun _ _ => rfl))) (qF (c_ix hu4 (c_nQ (pv 1)) (qF (c_int)) (fun _ _ => rfl))))) (qF (c_mul (qF (c_ix hu4 (c_nQ (pv 1)) (qF (c_int)) (fun _ _ => rfl))) (qF (c_ix hu4 (c_nQ (pv 0)) (qF (c_int)) (fun _ _ => rfl)))))))
noncomputable def g_is_whole_ratio : Sx := sRet (b2 (b2 (nQ 0) (kD (.int 1)) gIx) (kD (.int 1)) cEq)
noncomputable def h_is_whole_ratio : Sx := xsRet (xb2 (xb2 (xnQ 0) (kD (.int 1)) xIx) (kD (.int 1)) xEq)
noncomputable def F_is_whole_ratio : List PyData → Option PyData := xrunF 1 1 h_is_whole_ratio
theorem hx_is_whole_ratio : F_is_whole_ratio = runF 1 1 g_is_whole_ratio := by
  unfold F_is_whole_ratio
  rw [xrunF_eq]
  congr 1
  unfold h_is_whole_ratio g_is_whole_ratio
  simp only [xEq_eq, xIx_eq, xb2_eq, xnQ_eq, xsRet_eq]
theorem sc_is_whole_ratio : FnScope ["ratio"] ["ratio"] (defScope (top 41)) := ⟨rfl, rfl, rfl, by decide +kernel, rfl, by decide +kernel, by decide +kernel⟩
theorem cal_is_whole_ratio (M : Mg mg) (FD : FunD K "is_whole_ratio" "is_whole_ratio" (defArgs (top 41)) (defBody (top 41)) (defScope (top 41)) [] [] f fd) (hm : mg "is_whole_ratio" = some (.ref f))  : CF P w K mg base 1 "is_whole_ratio" F_is_whole_ratio := by
  rw [hx_is_whole_ratio]
  exact fn_F (g := g_is_whole_ratio) (k := 0) FD hm (FD.bindsN fun _ _ _ _ _ _ us hl => match us, hl with | [_], _ => rfl) sc_is_whole_ratio fun cdv A outer s H E hr =>
    have nd := sc_is_whole_ratio.nd
    have hu4 := room4 hr
    have hu5 := room5 hr
    l_one (s_retF (c_eq hu4 (qF (c_ix hu4 (c_nQ (pv 0)) (qF (c_int)) (fun _ _ => rfl))) (qF (c_int))))
noncomputable def g_power_sum : Sx := sRet (u1 (fLc (sqOf (b2 (nQ 0) (kD (.int 1)) gIx)) (bTup 2 (bsCons (bNm 1) (bsCons (bNm 2) (bsNil)))) (bYes) (nF 2) [1, 2]) gSum)
noncomputable def h_power_sum : Sx := xsRet (xu1 (xfLc (xsqOf (xb2 (xnQ 0) (kD (.int 1)) xIx)) (xbTup 2 (xbsCons (xbNm 1) (xbsCons (xbNm 2) (bsNil)))) (bYes) (xnF 2) [1, 2]) gSum)
noncomputable def F_power_sum : List PyData → Option PyData := xrunF 3 1 h_power_sum
theorem hx_power_sum : F_power_sum = runF 3 1 g_power_sum := by
  unfold F_power_sum
  rw [xrunF_eq]
  congr 1
  unfold h_power_sum g_power_sum
  simp only [xIx_eq, xb2_eq, xbNm_eq, xbTup_eq, xbsCons_eq, xfLc_eq, xnF_eq, xnQ_eq, xsRet_eq, xsqOf_eq, xu1_eq]
theorem sc_power_sum : FnScope ["product", "step", "power"] ["product"] (defScope (top 46)) := ⟨rfl, rfl, rfl, by decide +kernel, rfl, by decide +kernel, by decide +kernel⟩
theorem cal_power_sum (M : Mg mg) (FD : FunD K "power_sum" "power_sum" (defArgs (top 46)) (defBody (top 46)) (defScope (top 46)) [] [] f fd) (hm : mg "power_sum" = some (.ref f))  : CF P w K mg base 1 "power_sum" F_power_sum := by
  rw [hx_power_sum]
  exact fn_F (g := g_power_sum) (k := 0) FD hm (FD.bindsN fun _ _ _ _ _ _ us hl => match us, hl with | [_], _ => rfl) sc_power_sum fun cdv A outer s H E hr =>
    have nd := sc_power_sum.nd
    have hu4 := room4 hr
    have hu5 := room5 hr
    l_one (s_retF (c_sum rfl rfl M.b_sum (qO (c_lc (own := [("step", 1), ("power", 2)]) rfl nd (i_sq (c_ix hu4 (c_nQ (pv 0)) (qF (c_int)) (fun _ _ => rfl))) (blkOk_by (N := ["product", "step", "power"]) (sc := defScope (top 46)) (by decide +kernel)) (fun _ _ _ _ _ => g_tup rfl (gs_cons (g_nm (pg_name nd rfl (by first | exact Or.inl rfl | exact Or.inr rfl) (i := 1))) (gs_cons (g_nm (pg_name nd rfl (by first | exact Or.inl rfl | exact Or.inr rfl) (i := 2))) (gs_nil)))) (fun _ _ _ _ _ => t_nil) (fun _ _ _ _ _ => c_nF (pv 2)) (by decide)))))
noncomputable def g_step_sum : Sx := sRet (u1 (fLc (sqOf (b2 (nQ 0) (kD (.int 1)) gIx)) (bTup 2 (bsCons (bNm 1) (bsCons (bNm 2) (bsNil)))) (bYes) (b2 (nQ 1) (nQ 2) aMul) [1, 2]) gSum)
noncomputable def h_step_sum : Sx := xsRet (xu1 (xfLc (xsqOf (xb2 (xnQ 0) (kD (.int 1)) xIx)) (xbTup 2 (xbsCons (xbNm 1) (xbsCons (xbNm 2) (bsNil)))) (bYes) (xb2 (xnQ 1) (xnQ 2) xMul) [1, 2]) gSum)
noncomputable def F_step_sum : List PyData → Option PyData := xrunF 3 1 h_step_sum
theorem hx_step_sum : F_step_sum = runF 3 1 g_step_sum := by
  unfold F_step_sum
  rw [xrunF_eq]
  congr 1
  unfold h_step_sum g_step_sum
  simp only [xIx_eq, xMul_eq, xb2_eq, xbNm_eq, xbTup_eq, xbsCons_eq, xfLc_eq, xnQ_eq, xsRet_eq, xsqOf_eq, xu1_eq]
theorem sc_step_sum : FnScope ["product", "step", "power"] ["product"] (defScope (top 47)) := ⟨rfl, rfl, rfl, by decide +kernel, rfl, by decide +kernel, by decide +kernel⟩
theorem cal_step_sum (M : Mg mg) (FD : FunD K "step_sum" "step_sum" (defArgs (top 47)) (defBody (top 47)) (defScope (top 47)) [] [] f fd) (hm : mg "step_sum" = some (.ref f))  : CF P w K mg base 1 "step_sum" F_step_sum := by
  rw [hx_step_sum]
  exact fn_F (g := g_step_sum) (k := 0) FD hm (FD.bindsN fun _ _ _ _ _ _ us hl => match us, hl with | [_], _ => rfl) sc_step_sum fun cdv A outer s H E hr =>
    have nd := sc_step_sum.nd
    have hu4 := room4 hr
    have hu5 := room5 hr
    l_one (s_retF (c_sum rfl rfl M.b_sum (qO (c_lc (own := [("step", 1), ("power", 2)]) rfl nd (i_sq (c_ix hu4 (c_nQ (pv 0)) (qF (c_int)) (fun _ _ => rfl))) (blkOk_by (N := ["product", "step", "power"]) (sc := defScope (top 47)) (by decide +kernel)) (fun _ _ _ _ _ => g_tup rfl (gs_cons (g_nm (pg_name nd rfl (by first | exact Or.inl rfl | exact Or.inr rfl) (i := 1))) (gs_cons (g_nm (pg_name nd rfl (by first | exact Or.inl rfl | exact Or.inr rfl) (i := 2))) (gs_nil)))) (fun _ _ _ _ _ => t_nil) (fun _ _ _ _ _ => c_mul (c_nQ (pv 1)) (c_nQ (pv 2))) (by decide)))))
noncomputable def g_steps_divide : Sx := sRet (u1 (fLc (sqOf (b2 (nQ 0) (kD (.int 1)) gIx)) (bTup 2 (bsCons (bNm 2) (bsCons (bNm 3) (bsNil)))) (bYes) (b2 (b2 (nQ 1) (nQ 2) aMod) (kD (.int 0)) cEq) [2, 3]) gAll)
noncomputable def h_steps_divide : Sx := xsRet (xu1 (xfLc (xsqOf (xb2 (xnQ 0) (kD (.int 1)) xIx)) (xbTup 2 (xbsCons (xbNm 2) (xbsCons (xbNm 3) (bsNil)))) (bYes) (xb2 (xb2 (xnQ 1) (xnQ 2) xMod) (kD (.int 0)) xEq) [2, 3]) gAll)
noncomputable def F_steps_divide : List PyData → Option PyData := xrunF 4 2 h_steps_divide
theorem hx_steps_divide : F_steps_divide = runF 4 2 g_steps_divide := by
  unfold F_steps_divide
  rw [xrunF_eq]
  congr 1
  unfold h_steps_divide g_steps_divide
  simp only [xEq_eq, xIx_eq, xMod_eq, xb2_eq, xbNm_eq, xbTup_eq, xbsCons_eq, xfLc_eq, xnQ_eq, xsRet_eq, xsqOf_eq, xu1_eq]
theorem sc_steps_divide : FnScope ["product", "level", "step", "power"] ["product", "level"] (defScope (top 48)) := ⟨rfl, rfl, rfl, by decide +kernel, rfl, by decide +kernel, by decide +kernel⟩
theorem cal_steps_divide (M : Mg mg) (FD : FunD K "steps_divide" "steps_divide" (defArgs (top 48)) (defBody (top 48)) (defScope (top 48)) [] [] f fd) (hm : mg "steps_divide" = some (.ref f))  : CF P w K mg base 1 "steps_divide" F_steps_divide := by
  rw [hx_steps_divide]
  exact fn_F (g := g_steps_divide) (k := 0) FD hm (FD.bindsN fun _ _ _ _ _ _ us hl => match us, hl with | [_, _], _ => rfl) sc_steps_divide fun cdv A outer s H E hr =>
    have nd := sc_steps_divide.nd
    have hu4 := room4 hr
    have hu5 := room5 hr
    l_one (s_retF (c_all rfl rfl M.b_all (qO (c_lc (own := [("step", 2), ("power", 3)]) rfl nd (i_sq (c_ix hu4 (c_nQ (pv 0)) (qF (c_int)) (fun _ _ => rfl))) (blkOk_by (N := ["product", "level", "step", "power"]) (sc := defScope (top 48)) (by decide +kernel)) (fun _ _ _ _ _ => g_tup rfl (gs_cons (g_nm (pg_name nd rfl (by first | exact Or.inl rfl | exact Or.inr rfl) (i := 2))) (gs_cons (g_nm (pg_name nd rfl (by first | exact Or.inl rfl | exact Or.inr rfl) (i := 3))) (gs_nil)))) (fun _ _ _ _ _ => t_nil) (fun _ _ _ _ _ => c_eq hu4 (qF (c_mod (c_nQ (pv 1)) (c_nQ (pv 2)))) (qF (c_int))) (by decide)))))
end
end Q7

-- part Rc
set_option Elab.async false
set_option linter.all false
set_option maxRecDepth 100000
set_option maxHeartbeats 0
namespace Q7
open PySem PySem.Spec PyProof.Rows L2
open C8 (Cal pe_c)
section
variable {P : Program} {w : World} {K : PySem.W.Frag} {mg : Str → Option Value} {base : Heap} {f : Addr} {fd : FuncData}
noncomputable def g_rows_of_powers : Sx := sCons (sSet 3 (fLst (aCons (fTup (aNil)) (aNil)))) (sCons (sFor (sqOf (slL (nQ 0) (noP) (soP (u1 (kD (.int 1)) aNeg)))) (bNm 4) (sCons (sSetO 6 (fLst (aNil))) (sCons (sFor (sqOf (nF 3)) (bNm 7) (sExt 6 (fLc (r2Of (b2 (kD (.int 0)) (nQ 2) aSub) (b2 (nQ 2) (kD (.int 1)) aAdd)) (bNm 8) (bYes) (b2 (nQ 7) (fTup (aCons (nF 8) (aNil))) aCatT) [8]))) (sFz 6 (sSet 3 (nF 6)))))) (sCons (sFzA 5 (sSetO 5 (fLc (sqOf (nF 3)) (bNm 7) (bYes) (b2 (nQ 7) (fTup (aCons (b2 (nQ 1) (u1 (nQ 7) gSumT) aSub) (aNil))) aCatT) [7]))) (sRet (fLc (sqOf (nF 5)) (bNm 7) (oB (b2 (u1 (b2 (nQ 7) (u1 (kD (.int 1)) aNeg) gIx) gAbs) (nQ 2) cLe)) (nF 7) [7]))))
noncomputable def h_rows_of_powers : Sx := xsCons (xsSet 3 (fLst (xaCons (xfTup (aNil)) (aNil)))) (xsCons (xsFor (xsqOf (slL (xnQ 0) (noP) (soP (xu1 (kD (.int 1)) aNeg)))) (xbNm 4) (xsCons (xsSetO 6 (fLst (aNil))) (xsCons (xsFor (xsqOf (xnF 3)) (xbNm 7) (sExt 6 (xfLc (xr2 (xb2 (kD (.int 0)) (xnQ 2) xSub) (xb2 (xnQ 2) (kD (.int 1)) xAdd)) (xbNm 8) (bYes) (xb2 (xnQ 7) (xfTup (xaCons (xnF 8) (aNil))) aCatT) [8]))) (xsFz 6 (xsSet 3 (xnF 6)))))) (xsCons (sFzA 5 (xsSetO 5 (xfLc (xsqOf (xnF 3)) (xbNm 7) (bYes) (xb2 (xnQ 7) (xfTup (xaCons (xb2 (xnQ 1) (xu1 (xnQ 7) gSumT) xSub) (aNil))) aCatT) [7]))) (xsRet (xfLc (xsqOf (xnF 5)) (xbNm 7) (xoB (xb2 (xu1 (xb2 (xnQ 7) (xu1 (kD (.int 1)) aNeg) xIx) xAbs) (xnQ 2) xLe)) (xnF 7) [7]))))
noncomputable def F_rows_of_powers : List PyData → Option PyData := xrunF 9 3 h_rows_of_powers
theorem hx_rows_of_powers : F_rows_of_powers = runF 9 3 g_rows_of_powers := by
  unfold F_rows_of_powers
  rw [xrunF_eq]
  congr 1
  unfold h_rows_of_powers g_rows_of_powers
  simp only [xAbs_eq, xAdd_eq, xIx_eq, xLe_eq, xSub_eq, xaCons_eq, xb2_eq, xbNm_eq, xfLc_eq, xfTup_eq, xnF_eq, xnQ_eq, xoB_eq, xr2_eq, xsCons_eq, xsFor_eq, xsFz_eq, xsRet_eq, xsSet_eq, xsSetO_eq, xsqOf_eq, xu1_eq]
theorem sc_rows_of_powers : FnScope ["steps", "total", "most", "rows", "step", "whole", "late", "row", "power"] ["steps", "total", "most"] (defScope (top 54)) := ⟨rfl, rfl, rfl, by decide +kernel, rfl, by decide +kernel, by decide +kernel⟩
theorem cal_rows_of_powers (M : Mg mg) (FD : FunD K "rows_of_powers" "rows_of_powers" (defArgs (top 54)) (defBody (top 54)) (defScope (top 54)) [] [] f fd) (hm : mg "rows_of_powers" = some (.ref f))  : CF P w K mg base 1 "rows_of_powers" F_rows_of_powers := by
  rw [hx_rows_of_powers]
  exact fn_F (g := g_rows_of_powers) (k := 0) FD hm (FD.bindsN fun _ _ _ _ _ _ us hl => match us, hl with | [_, _, _], _ => rfl) sc_rows_of_powers fun cdv A outer s H E hr =>
    have nd := sc_rows_of_powers.nd
    have hu4 := room4 hr
    have hu5 := room5 hr
    l_cons (s_setF (i := 3) nd rfl (Or.inl rfl) (fO (c_lst (a_cons (c_tup (a_nil)) (a_nil))))) (l_cons (s_for PassesOwn.never rfl (i_sq (fO (c_slL (c_nQ (pv 0)) (p_no) (p_so (qF (c_neg (qF (c_int)))))))) (g_nm (pg_name nd rfl (by first | exact Or.inl rfl | exact Or.inr rfl) (i := 4))) (l_cons (s_setO (i := 6) nd rfl (Or.inl rfl) (c_lst (a_nil))) (l_cons (s_for PassesOwn.never rfl (i_sq (c_nF (pv 3))) (g_nm (pg_name nd rfl (by first | exact Or.inl rfl | exact Or.inr rfl) (i := 7))) (l_one (s_ext (pe_bm PySem.F.plainAttrs_list PySem.F.slot_list_extend PySem.F.type_list_extend mt_extend (pv 6) (pa_cons (c_lc (own := [("power", 8)]) rfl nd (i_rg2 rfl M.b_range (qF (c_sub (qF (c_int)) (c_nQ (pv 2)))) (qF (c_add (c_nQ (pv 2)) (qF (c_int))))) (blkOk_by (N := ["steps", "total", "most", "rows", "step", "whole", "late", "row", "power"]) (sc := defScope (top 54)) (by decide +kernel)) (fun _ _ _ _ _ => g_nm (pg_name nd rfl (by first | exact Or.inl rfl | exact Or.inr rfl) (i := 8))) (fun _ _ _ _ _ => t_nil) (fun _ _ _ _ _ => c_catT (c_nQ (pv 7)) (qF (c_tup (a_cons (c_nF (pv 8)) (a_nil))))) (by decide)) pa_nil))))) (l_one (s_fz 6 (s_setF (i := 3) nd rfl (Or.inl rfl) (c_nF (pv 6)))))))) (l_cons (s_fzA (s_lc (i := 5) (own := [("row", 7)]) rfl nd rfl rfl rfl (i_sq (c_nF (pv 3))) (blkOk_by (N := ["steps", "total", "most", "rows", "step", "whole", "late", "row", "power"]) (sc := defScope (top 54)) (by decide +kernel)) (fun _ _ _ _ _ => g_nm (pg_name nd rfl (by first | exact Or.inl rfl | exact Or.inr rfl) (i := 7))) (fun _ _ _ _ _ => t_nil) (fun _ _ _ _ _ => c_catT (c_nQ (pv 7)) (qF (c_tup (a_cons (c_sub (c_nQ (pv 1)) (qF (c_sumT rfl rfl M.b_sum (c_nQ (pv 7))))) (a_nil))))) (by decide))) (l_one (s_retF (fO (c_lc (own := [("row", 7)]) rfl nd (i_sq (c_nF (pv 5))) (blkOk_by (N := ["steps", "total", "most", "rows", "step", "whole", "late", "row", "power"]) (sc := defScope (top 54)) (by decide +kernel)) (fun _ _ _ _ _ => g_nm (pg_name nd rfl (by first | exact Or.inl rfl | exact Or.inr rfl) (i := 7))) (fun _ _ _ _ _ => t_one (b_le (qF (c_abs rfl M.b_abs (qF (c_ix hu4 (c_nQ (pv 7)) (qF (c_neg (qF (c_int)))) (fun _ _ => rfl))))) (c_nQ (pv 2)))) (fun _ _ _ _ _ => c_nF (pv 7)) (by decide)))))))
noncomputable def g_product_of_row : Sx := sRet (fTup (aCons (kD (.str k_WORD)) (aCons (u1 (fLc (zpLTOf (nF 0) (nF 1)) (bTup 2 (bsCons (bNm 2) (bsCons (bNm 3) (bsNil)))) (oB (b2 (nQ 3) (kD (.int 0)) cNe)) (fTup (aCons (nF 2) (aCons (nF 3) (aNil)))) [2, 3]) gTupl) (aNil))))
noncomputable def h_product_of_row : Sx := xsRet (xfTup (xaCons (kD (.str k_WORD)) (xaCons (xu1 (xfLc (zpLTOf (xnF 0) (xnF 1)) (xbTup 2 (xbsCons (xbNm 2) (xbsCons (xbNm 3) (bsNil)))) (xoB (xb2 (xnQ 3) (kD (.int 0)) xNe)) (xfTup (xaCons (xnF 2) (xaCons (xnF 3) (aNil)))) [2, 3]) gTupl) (aNil))))
noncomputable def F_product_of_row : List PyData → Option PyData := xrunF 4 2 h_product_of_row
theorem hx_product_of_row : F_product_of_row = runF 4 2 g_product_of_row := by
  unfold F_product_of_row
  rw [xrunF_eq]
  congr 1
  unfold h_product_of_row g_product_of_row
  simp only [xNe_eq, xaCons_eq, xb2_eq, xbNm_eq, xbTup_eq, xbsCons_eq, xfLc_eq, xfTup_eq, xnF_eq, xnQ_eq, xoB_eq, xsRet_eq, xu1_eq]
theorem sc_product_of_row : FnScope ["steps", "row", "step", "power"] ["steps", "row"] (defScope (top 55)) := ⟨rfl, rfl, rfl, by decide +kernel, rfl, by decide +kernel, by decide +kernel⟩
noncomputable def g_are_steps_within : Sx := sRet (u1 (fLc (sqOf (b2 (nQ 0) (kD (.int 1)) gIx)) (bTup 2 (bsCons (bNm 3) (bsCons (bNm 4) (bsNil)))) (bYes) (b2 (b2 (b2 (nQ 1) (nQ 2) aMul) (nQ 3) aMod) (kD (.int 0)) cEq) [3, 4]) gAll)
noncomputable def h_are_steps_within : Sx := xsRet (xu1 (xfLc (xsqOf (xb2 (xnQ 0) (kD (.int 1)) xIx)) (xbTup 2 (xbsCons (xbNm 3) (xbsCons (xbNm 4) (bsNil)))) (bYes) (xb2 (xb2 (xb2 (xnQ 1) (xnQ 2) xMul) (xnQ 3) xMod) (kD (.int 0)) xEq) [3, 4]) gAll)
noncomputable def F_are_steps_within : List PyData → Option PyData := xrunF 5 3 h_are_steps_within
theorem hx_are_steps_within : F_are_steps_within = runF 5 3 g_are_steps_within := by
  unfold F_are_steps_within
  rw [xrunF_eq]
  congr 1
  unfold h_are_steps_within g_are_steps_within
  simp only [xEq_eq, xIx_eq, xMod_eq, xMul_eq, xb2_eq, xbNm_eq, xbTup_eq, xbsCons_eq, xfLc_eq, xnQ_eq, xsRet_eq, xsqOf_eq, xu1_eq]
theorem sc_are_steps_within : FnScope ["product", "m", "level", "step", "power"] ["product", "m", "level"] (defScope (top 67)) := ⟨rfl, rfl, rfl, by decide +kernel, rfl, by decide +kernel, by decide +kernel⟩
theorem cal_are_steps_within (M : Mg mg) (FD : FunD K "are_steps_within" "are_steps_within" (defArgs (top 67)) (defBody (top 67)) (defScope (top 67)) [] [] f fd) (hm : mg "are_steps_within" = some (.ref f))  : CF P w K mg base 1 "are_steps_within" F_are_steps_within := by
  rw [hx_are_steps_within]
  exact fn_F (g := g_are_steps_within) (k := 0) FD hm (FD.bindsN fun _ _ _ _ _ _ us hl => match us, hl with | [_, _, _], _ => rfl) sc_are_steps_within fun cdv A outer s H E hr =>
    have nd := sc_are_steps_within.nd
    have hu4 := room4 hr
    have hu5 := room5 hr
    l_one (s_retF (c_all rfl rfl M.b_all (qO (c_lc (own := [("step", 3), ("power", 4)]) rfl nd (i_sq (c_ix hu4 (c_nQ (pv 0)) (qF (c_int)) (fun _ _ => rfl))) (blkOk_by (N := ["product", "m", "level", "step", "power"]) (sc := defScope (top 67)) (by decide +kernel)) (fun _ _ _ _ _ => g_tup rfl (gs_cons (g_nm (pg_name nd rfl (by first | exact Or.inl rfl | exact Or.inr rfl) (i := 3))) (gs_cons (g_nm (pg_name nd rfl (by first | exact Or.inl rfl | exact Or.inr rfl) (i := 4))) (gs_nil)))) (fun _ _ _ _ _ => t_nil) (fun _ _ _ _ _ => c_eq hu4 (qF (c_mod (qF (c_mul (c_nQ (pv 1)) (c_nQ (pv 2)))) (c_nQ (pv 3)))) (qF (c_int))) (by decide)))))
noncomputable def g_weighed_steps : Sx := sRet (u1 (fLc (sqOf (b2 (nQ 0) (kD (.int 1)) gIx)) (bTup 2 (bsCons (bNm 3) (bsCons (bNm 4) (bsNil)))) (bYes) (b2 (nQ 4) (b2 (b2 (nQ 1) (nQ 2) aMul) (nQ 3) aDiv) aMul) [3, 4]) gSum)
noncomputable def h_weighed_steps : Sx := xsRet (xu1 (xfLc (xsqOf (xb2 (xnQ 0) (kD (.int 1)) xIx)) (xbTup 2 (xbsCons (xbNm 3) (xbsCons (xbNm 4) (bsNil)))) (bYes) (xb2 (xnQ 4) (xb2 (xb2 (xnQ 1) (xnQ 2) xMul) (xnQ 3) xDiv) xMul) [3, 4]) gSum)
noncomputable def F_weighed_steps : List PyData → Option PyData := xrunF 5 3 h_weighed_steps
theorem hx_weighed_steps : F_weighed_steps = runF 5 3 g_weighed_steps := by
  unfold F_weighed_steps
  rw [xrunF_eq]
  congr 1
  unfold h_weighed_steps g_weighed_steps
  simp only [xDiv_eq, xIx_eq, xMul_eq, xb2_eq, xbNm_eq, xbTup_eq, xbsCons_eq, xfLc_eq, xnQ_eq, xsRet_eq, xsqOf_eq, xu1_eq]
theorem sc_weighed_steps : FnScope ["product", "m", "level", "step", "power"] ["product", "m", "level"] (defScope (top 68)) := ⟨rfl, rfl, rfl, by decide +kernel, rfl, by decide +kernel, by decide +kernel⟩
theorem cal_weighed_steps (M : Mg mg) (FD : FunD K "weighed_steps" "weighed_steps" (defArgs (top 68)) (defBody (top 68)) (defScope (top 68)) [] [] f fd) (hm : mg "weighed_steps" = some (.ref f))  : CF P w K mg base 1 "weighed_steps" F_weighed_steps := by
  rw [hx_weighed_steps]
  exact fn_F (g := g_weighed_steps) (k := 0) FD hm (FD.bindsN fun _ _ _ _ _ _ us hl => match us, hl with | [_, _, _], _ => rfl) sc_weighed_steps fun cdv A outer s H E hr =>
    have nd := sc_weighed_steps.nd
    have hu4 := room4 hr
    have hu5 := room5 hr
    l_one (s_retF (c_sum rfl rfl M.b_sum (qO (c_lc (own := [("step", 3), ("power", 4)]) rfl nd (i_sq (c_ix hu4 (c_nQ (pv 0)) (qF (c_int)) (fun _ _ => rfl))) (blkOk_by (N := ["product", "m", "level", "step", "power"]) (sc := defScope (top 68)) (by decide +kernel)) (fun _ _ _ _ _ => g_tup rfl (gs_cons (g_nm (pg_name nd rfl (by first | exact Or.inl rfl | exact Or.inr rfl) (i := 3))) (gs_cons (g_nm (pg_name nd rfl (by first | exact Or.inl rfl | exact Or.inr rfl) (i := 4))) (gs_nil)))) (fun _ _ _ _ _ => t_nil) (fun _ _ _ _ _ => c_mul (c_nQ (pv 4)) (qF (c_div (qF (c_mul (c_nQ (pv 1)) (c_nQ (pv 2)))) (c_nQ (pv 3))))) (by decide)))))
noncomputable def g_twos_and_odd : Sx := sCons (sPar2 1 2 false false (kD (.int 0)) (kD (.int 1))) (sCons (sFor (sqOf (b2 (nQ 0) (kD (.int 1)) gIx)) (bTup 2 (bsCons (bNm 3) (bsCons (bNm 4) (bsNil)))) (sCons (sSet 5 (nF 3)) (sCons (whileF (oB (b2 (b2 (nQ 5) (kD (.int 2)) aMod) (kD (.int 0)) cEq)) (sPar2 5 1 false false (b2 (nQ 5) (kD (.int 2)) aDiv) (b2 (nQ 1) (u1 (nQ 4) gAbs) aAdd)) 3000) (sSet 2 (iF (oB (b2 (b2 (nQ 4) (kD (.int 2)) aMod) (kD (.int 1)) cEq)) (b2 (b2 (nQ 2) (nQ 5) aMul) (kD (.int 8)) aMod) (nF 2)))))) (sRet (fTup (aCons (nF 1) (aCons (nF 2) (aNil))))))
noncomputable def h_twos_and_odd : Sx := xsCons (xsPar2 1 2 false false (kD (.int 0)) (kD (.int 1))) (xsCons (xsFor (xsqOf (xb2 (xnQ 0) (kD (.int 1)) xIx)) (xbTup 2 (xbsCons (xbNm 3) (xbsCons (xbNm 4) (bsNil)))) (xsCons (xsSet 5 (xnF 3)) (xsCons (xwhl (xoB (xb2 (xb2 (xnQ 5) (kD (.int 2)) xMod) (kD (.int 0)) xEq)) (xsPar2 5 1 false false (xb2 (xnQ 5) (kD (.int 2)) xDiv) (xb2 (xnQ 1) (xu1 (xnQ 4) xAbs) xAdd)) 3000) (xsSet 2 (xiF (xoB (xb2 (xb2 (xnQ 4) (kD (.int 2)) xMod) (kD (.int 1)) xEq)) (xb2 (xb2 (xnQ 2) (xnQ 5) xMul) (kD (.int 8)) xMod) (xnF 2)))))) (xsRet (xfTup (xaCons (xnF 1) (xaCons (xnF 2) (aNil))))))
noncomputable def F_twos_and_odd : List PyData → Option PyData := xrunF 6 1 h_twos_and_odd
theorem hx_twos_and_odd : F_twos_and_odd = runF 6 1 g_twos_and_odd := by
  unfold F_twos_and_odd
  rw [xrunF_eq]
  congr 1
  unfold h_twos_and_odd g_twos_and_odd
  simp only [xAbs_eq, xAdd_eq, xDiv_eq, xEq_eq, xIx_eq, xMod_eq, xMul_eq, xaCons_eq, xb2_eq, xbNm_eq, xbTup_eq, xbsCons_eq, xfTup_eq, xiF_eq, xnF_eq, xnQ_eq, xoB_eq, xsCons_eq, xsFor_eq, xsPar2_eq, xsRet_eq, xsSet_eq, xsqOf_eq, xu1_eq, xwhl_eq]
theorem sc_twos_and_odd : FnScope ["product", "twos", "odd", "step", "power", "left"] ["product"] (defScope (top 70)) := ⟨rfl, rfl, rfl, by decide +kernel, rfl, by decide +kernel, by decide +kernel⟩
theorem cal_twos_and_odd (M : Mg mg) (FD : FunD K "twos_and_odd" "twos_and_odd" (defArgs (top 70)) (defBody (top 70)) (defScope (top 70)) [] [] f fd) (hm : mg "twos_and_odd" = some (.ref f))  : CF P w K mg base 1 "twos_and_odd" F_twos_and_odd := by
  rw [hx_twos_and_odd]
  exact fn_F (g := g_twos_and_odd) (k := 0) FD hm (FD.bindsN fun _ _ _ _ _ _ us hl => match us, hl with | [_], _ => rfl) sc_twos_and_odd fun cdv A outer s H E hr =>
    have nd := sc_twos_and_odd.nd
    have hu4 := room4 hr
    have hu5 := room5 hr
    l_cons (s_parT2 (o1 := false) (o2 := false) (i := 1) (j := 2) (c_int) (c_int) (pg_tup rfl (pgs_cons (pg_name nd rfl (Or.inl rfl) (i := 1)) (pgs_cons (pg_name nd rfl (Or.inl rfl) (i := 2)) (pgs_nil))))) (l_cons (s_for PassesOwn.never rfl (i_sq (c_ix hu4 (c_nQ (pv 0)) (qF (c_int)) (fun _ _ => rfl))) (g_tup rfl (gs_cons (g_nm (pg_name nd rfl (by first | exact Or.inl rfl | exact Or.inr rfl) (i := 3))) (gs_cons (g_nm (pg_name nd rfl (by first | exact Or.inl rfl | exact Or.inr rfl) (i := 4))) (gs_nil)))) (l_cons (s_setF (i := 5) nd rfl (Or.inl rfl) (c_nF (pv 3))) (l_cons (s_while PassesOwn.never (b_eq hu4 (qF (c_mod (c_nQ (pv 5)) (qF (c_int)))) (qF (c_int))) (l_one (s_par2 (o1 := false) (o2 := false) (i := 5) (j := 1) rfl nd rfl rfl (by decide) rfl rfl (c_div (c_nQ (pv 5)) (qF (c_int))) (c_add (c_nQ (pv 1)) (qF (c_abs rfl M.b_abs (c_nQ (pv 4))))) rfl))) (l_one (s_setF (i := 2) nd rfl (Or.inl rfl) (c_if (b_eq hu4 (qF (c_mod (c_nQ (pv 4)) (qF (c_int)))) (qF (c_int))) (c_mod (qF (c_mul (c_nQ (pv 2)) (c_nQ (pv 5)))) (qF (c_int))) (c_nF (pv 2)))))))) (l_one (s_retF (c_tup (a_cons (c_nF (pv 1)) (a_cons (c_nF (pv 2)) (a_nil)))))))
noncomputable def g_want_digits : Sx := sCons (sFor (sqOf (nF 0)) (bNm 1) (sIf (bNot (oB (ch3 (u1 (kD (.int k_BOUND_OF_DIGITS)) aNeg) (nQ 1) (kD (.int k_BOUND_OF_DIGITS)) pLt pLt))) (sNo) (sNil))) (sRet (nF 0))
noncomputable def h_want_digits : Sx := xsCons (xsFor (xsqOf (xnF 0)) (xbNm 1) (xsIf (xbNot (xoB (ch3 (xu1 (kD (.int k_BOUND_OF_DIGITS)) aNeg) (xnQ 1) (kD (.int k_BOUND_OF_DIGITS)) pLt pLt))) (sNo) (sNil))) (xsRet (xnF 0))
noncomputable def F_want_digits : List PyData → Option PyData := xrunF 2 1 h_want_digits
theorem hx_want_digits : F_want_digits = runF 2 1 g_want_digits := by
  unfold F_want_digits
  rw [xrunF_eq]
  congr 1
  unfold h_want_digits g_want_digits
  simp only [xbNm_eq, xbNot_eq, xnF_eq, xnQ_eq, xoB_eq, xsCons_eq, xsFor_eq, xsIf_eq, xsRet_eq, xsqOf_eq, xu1_eq]
theorem sc_want_digits : FnScope ["row", "number"] ["row"] (defScope (top 80)) := ⟨rfl, rfl, rfl, by decide +kernel, rfl, by decide +kernel, by decide +kernel⟩
theorem cal_want_digits (M : Mg mg) (FD : FunD K "want_digits" "want_digits" (defArgs (top 80)) (defBody (top 80)) (defScope (top 80)) [] [] f fd) (hm : mg "want_digits" = some (.ref f))  : CF P w K mg base 1 "want_digits" F_want_digits := by
  rw [hx_want_digits]
  exact fn_F (g := g_want_digits) (k := 0) FD hm (FD.bindsN fun _ _ _ _ _ _ us hl => match us, hl with | [_], _ => rfl) sc_want_digits fun cdv A outer s H E hr =>
    have nd := sc_want_digits.nd
    have hu4 := room4 hr
    have hu5 := room5 hr
    l_cons (s_for PassesOwn.never rfl (i_sq (c_nF (pv 0))) (g_nm (pg_name nd rfl (by first | exact Or.inl rfl | exact Or.inr rfl) (i := 1))) (l_one (s_if (b_not (b_ch op_lt op_lt (qF (c_neg (qF (c_gint rfl M.c_BOUND_OF_DIGITS)))) (c_nQ (pv 1)) (qF (c_gint rfl M.c_BOUND_OF_DIGITS)))) (l_no) (l_nil)))) (l_one (s_retF (c_nF (pv 0))))
noncomputable def g_want_reached : Sx := sCons (sIf (oB (b2 (nQ 2) (kD (.int k_MOST_PLACE)) cGt)) (sNo) (sNil)) (sCons (sIf (oB (b2 (b2 (b2 (nQ 0) (nQ 2) aMul) (nQ 1) aAdd) (kD (.int k_MOST_REACHED)) cGt)) (sNo) (sNil)) (sRet (nF 2)))
noncomputable def h_want_reached : Sx := xsCons (xsIf (xoB (xb2 (xnQ 2) (kD (.int k_MOST_PLACE)) xGt)) (sNo) (sNil)) (xsCons (xsIf (xoB (xb2 (xb2 (xb2 (xnQ 0) (xnQ 2) xMul) (xnQ 1) xAdd) (kD (.int k_MOST_REACHED)) xGt)) (sNo) (sNil)) (xsRet (xnF 2)))
noncomputable def F_want_reached : List PyData → Option PyData := xrunF 3 3 h_want_reached
theorem hx_want_reached : F_want_reached = runF 3 3 g_want_reached := by
  unfold F_want_reached
  rw [xrunF_eq]
  congr 1
  unfold h_want_reached g_want_reached
  simp only [xAdd_eq, xGt_eq, xMul_eq, xb2_eq, xnF_eq, xnQ_eq, xoB_eq, xsCons_eq, xsIf_eq, xsRet_eq]
theorem sc_want_reached : FnScope ["m", "t", "last"] ["m", "t", "last"] (defScope (top 101)) := ⟨rfl, rfl, rfl, by decide +kernel, rfl, by decide +kernel, by decide +kernel⟩
theorem cal_want_reached (M : Mg mg) (FD : FunD K "want_reached" "want_reached" (defArgs (top 101)) (defBody (top 101)) (defScope (top 101)) [] [] f fd) (hm : mg "want_reached" = some (.ref f))  : CF P w K mg base 1 "want_reached" F_want_reached := by
  rw [hx_want_reached]
  exact fn_F (g := g_want_reached) (k := 0) FD hm (FD.bindsN fun _ _ _ _ _ _ us hl => match us, hl with | [_, _, _], _ => rfl) sc_want_reached fun cdv A outer s H E hr =>
    have nd := sc_want_reached.nd
    have hu4 := room4 hr
    have hu5 := room5 hr
    l_cons (s_if (b_gt (c_nQ (pv 2)) (qF (c_gint rfl M.c_MOST_PLACE))) (l_no) (l_nil)) (l_cons (s_if (b_gt (qF (c_add (qF (c_mul (c_nQ (pv 0)) (c_nQ (pv 2)))) (c_nQ (pv 1)))) (qF (c_gint rfl M.c_MOST_REACHED))) (l_no) (l_nil)) (l_one (s_retF (c_nF (pv 2)))))
noncomputable def g__law_gcd : Sx := sCons (sPar2 0 1 false false (u1 (nQ 0) gAbs) (u1 (nQ 1) gAbs)) (sCons (whileF (oB (b2 (nQ 1) (kD (.int 0)) cNe)) (sPar2 0 1 false false (nF 1) (b2 (u1 (nQ 0) gInt) (nQ 1) aMod)) 3000) (sRet (nF 0)))
noncomputable def h__law_gcd : Sx := xsCons (xsPar2 0 1 false false (xu1 (xnQ 0) xAbs) (xu1 (xnQ 1) xAbs)) (xsCons (xwhl (xoB (xb2 (xnQ 1) (kD (.int 0)) xNe)) (xsPar2 0 1 false false (xnF 1) (xb2 (xu1 (xnQ 0) xInt) (xnQ 1) xMod)) 3000) (xsRet (xnF 0)))
noncomputable def F__law_gcd : List PyData → Option PyData := xrunF 2 2 h__law_gcd
theorem hx__law_gcd : F__law_gcd = runF 2 2 g__law_gcd := by
  unfold F__law_gcd
  rw [xrunF_eq]
  congr 1
  unfold h__law_gcd g__law_gcd
  simp only [xAbs_eq, xInt_eq, xMod_eq, xNe_eq, xb2_eq, xnF_eq, xnQ_eq, xoB_eq, xsCons_eq, xsPar2_eq, xsRet_eq, xu1_eq, xwhl_eq]
theorem sc__law_gcd : FnScope ["_law_one", "_law_other"] ["_law_one", "_law_other"] (defScope (top 114)) := ⟨rfl, rfl, rfl, by decide +kernel, rfl, by decide +kernel, by decide +kernel⟩
theorem cal__law_gcd (M : Mg mg) (FD : FunD K "_law_gcd" "_law_gcd" (defArgs (top 114)) (defBody (top 114)) (defScope (top 114)) [] [] f fd) (hm : mg "_law_gcd" = some (.ref f))  : CF P w K mg base 1 "_law_gcd" F__law_gcd := by
  rw [hx__law_gcd]
  exact fn_F (g := g__law_gcd) (k := 0) FD hm (FD.bindsN fun _ _ _ _ _ _ us hl => match us, hl with | [_, _], _ => rfl) sc__law_gcd fun cdv A outer s H E hr =>
    have nd := sc__law_gcd.nd
    have hu4 := room4 hr
    have hu5 := room5 hr
    l_cons (s_par2 (o1 := false) (o2 := false) (i := 0) (j := 1) rfl nd rfl rfl (by decide) rfl rfl (c_abs rfl M.b_abs (c_nQ (pv 0))) (c_abs rfl M.b_abs (c_nQ (pv 1))) rfl) (l_cons (s_while PassesOwn.never (b_ne hu4 (c_nQ (pv 1)) (qF (c_int))) (l_one (s_par2 (o1 := false) (o2 := false) (i := 0) (j := 1) rfl nd rfl rfl (by decide) rfl rfl (c_nF (pv 1)) (c_mod (qF (c_int1 rfl M.b_int (c_nQ (pv 0)))) (c_nQ (pv 1))) rfl))) (l_one (s_retF (c_nF (pv 0)))))
noncomputable def g__law_divisors : Sx := sRet (fLc (r2Of (kD (.int 1)) (b2 (nQ 0) (kD (.int 1)) aAdd)) (bNm 1) (oB (b2 (b2 (u1 (nQ 0) gInt) (nQ 1) aMod) (kD (.int 0)) cEq)) (nF 1) [1])
noncomputable def h__law_divisors : Sx := xsRet (xfLc (xr2 (kD (.int 1)) (xb2 (xnQ 0) (kD (.int 1)) xAdd)) (xbNm 1) (xoB (xb2 (xb2 (xu1 (xnQ 0) xInt) (xnQ 1) xMod) (kD (.int 0)) xEq)) (xnF 1) [1])
noncomputable def F__law_divisors : List PyData → Option PyData := xrunF 2 1 h__law_divisors
theorem hx__law_divisors : F__law_divisors = runF 2 1 g__law_divisors := by
  unfold F__law_divisors
  rw [xrunF_eq]
  congr 1
  unfold h__law_divisors g__law_divisors
  simp only [xAdd_eq, xEq_eq, xInt_eq, xMod_eq, xb2_eq, xbNm_eq, xfLc_eq, xnF_eq, xnQ_eq, xoB_eq, xr2_eq, xsRet_eq, xu1_eq]
noncomputable def tab__law_divisors : List (List Int × PyData) := [([Int.ofNat 1], .list [.int (Int.ofNat 1)]), ([Int.ofNat 2], .list [.int (Int.ofNat 1), .int (Int.ofNat 2)]), ([Int.ofNat 3], .list [.int (Int.ofNat 1), .int (Int.ofNat 3)]), ([Int.ofNat 4], .list [.int (Int.ofNat 1), .int (Int.ofNat 2), .int (Int.ofNat 4)]), ([Int.ofNat 5], .list [.int (Int.ofNat 1), .int (Int.ofNat 5)]), ([Int.ofNat 6], .list [.int (Int.ofNat 1), .int (Int.ofNat 2), .int (Int.ofNat 3), .int (Int.ofNat 6)]), ([Int.ofNat 7], .list [.int (Int.ofNat 1), .int (Int.ofNat 7)]), ([Int.ofNat 8], .list [.int (Int.ofNat 1), .int (Int.ofNat 2), .int (Int.ofNat 4), .int (Int.ofNat 8)]), ([Int.ofNat 10], .list [.int (Int.ofNat 1), .int (Int.ofNat 2), .int (Int.ofNat 5), .int (Int.ofNat 10)]), ([Int.ofNat 12], .list [.int (Int.ofNat 1), .int (Int.ofNat 2), .int (Int.ofNat 3), .int (Int.ofNat 4), .int (Int.ofNat 6), .int (Int.ofNat 12)]), ([Int.ofNat 15], .list [.int (Int.ofNat 1), .int (Int.ofNat 3), .int (Int.ofNat 5), .int (Int.ofNat 15)]), ([Int.ofNat 24], .list [.int (Int.ofNat 1), .int (Int.ofNat 2), .int (Int.ofNat 3), .int (Int.ofNat 4), .int (Int.ofNat 6), .int (Int.ofNat 8), .int (Int.ofNat 12), .int (Int.ofNat 24)])]
noncomputable def T__law_divisors : List PyData → Option PyData := xtab (look tab__law_divisors) F__law_divisors
theorem T__law_divisors_eq : T__law_divisors = F__law_divisors := tab_eq (by kernel_rfl)
theorem sc__law_divisors : FnScope ["_law_number", "_law_one"] ["_law_number"] (defScope (top 115)) := ⟨rfl, rfl, rfl, by decide +kernel, rfl, by decide +kernel, by decide +kernel⟩
theorem cal__law_divisors (M : Mg mg) (FD : FunD K "_law_divisors" "_law_divisors" (defArgs (top 115)) (defBody (top 115)) (defScope (top 115)) [] [] f fd) (hm : mg "_law_divisors" = some (.ref f))  : CF P w K mg base 1 "_law_divisors" F__law_divisors := by
  rw [hx__law_divisors]
  exact fn_F (g := g__law_divisors) (k := 0) FD hm (FD.bindsN fun _ _ _ _ _ _ us hl => match us, hl with | [_], _ => rfl) sc__law_divisors fun cdv A outer s H E hr =>
    have nd := sc__law_divisors.nd
    have hu4 := room4 hr
    have hu5 := room5 hr
    l_one (s_retF (fO (c_lc (own := [("_law_one", 1)]) rfl nd (i_rg2 rfl M.b_range (qF (c_int)) (qF (c_add (c_nQ (pv 0)) (qF (c_int))))) (blkOk_by (N := ["_law_number", "_law_one"]) (sc := defScope (top 115)) (by decide +kernel)) (fun _ _ _ _ _ => g_nm (pg_name nd rfl (by first | exact Or.inl rfl | exact Or.inr rfl) (i := 1))) (fun _ _ _ _ _ => t_one (b_eq hu4 (qF (c_mod (qF (c_int1 rfl M.b_int (c_nQ (pv 0)))) (c_nQ (pv 1)))) (qF (c_int)))) (fun _ _ _ _ _ => c_nF (pv 1)) (by decide))))
noncomputable def g__law_is_less : Sx := sRet (b2 (b2 (b2 (nQ 0) (kD (.int 0)) gIx) (b2 (nQ 1) (kD (.int 1)) gIx) aMul) (b2 (b2 (nQ 1) (kD (.int 0)) gIx) (b2 (nQ 0) (kD (.int 1)) gIx) aMul) cLt)
noncomputable def h__law_is_less : Sx := xsRet (xb2 (xb2 (xb2 (xnQ 0) (kD (.int 0)) xIx) (xb2 (xnQ 1) (kD (.int 1)) xIx) xMul) (xb2 (xb2 (xnQ 1) (kD (.int 0)) xIx) (xb2 (xnQ 0) (kD (.int 1)) xIx) xMul) xLt)
noncomputable def F__law_is_less : List PyData → Option PyData := xrunF 2 2 h__law_is_less
theorem hx__law_is_less : F__law_is_less = runF 2 2 g__law_is_less := by
  unfold F__law_is_less
  rw [xrunF_eq]
  congr 1
  unfold h__law_is_less g__law_is_less
  simp only [xIx_eq, xLt_eq, xMul_eq, xb2_eq, xnQ_eq, xsRet_eq]
theorem sc__law_is_less : FnScope ["_law_one", "_law_other"] ["_law_one", "_law_other"] (defScope (top 118)) := ⟨rfl, rfl, rfl, by decide +kernel, rfl, by decide +kernel, by decide +kernel⟩
theorem cal__law_is_less (M : Mg mg) (FD : FunD K "_law_is_less" "_law_is_less" (defArgs (top 118)) (defBody (top 118)) (defScope (top 118)) [] [] f fd) (hm : mg "_law_is_less" = some (.ref f))  : CF P w K mg base 1 "_law_is_less" F__law_is_less := by
  rw [hx__law_is_less]
  exact fn_F (g := g__law_is_less) (k := 0) FD hm (FD.bindsN fun _ _ _ _ _ _ us hl => match us, hl with | [_, _], _ => rfl) sc__law_is_less fun cdv A outer s H E hr =>
    have nd := sc__law_is_less.nd
    have hu4 := room4 hr
    have hu5 := room5 hr
    l_one (s_retF (c_lt (qF (c_mul (qF (c_ix hu4 (c_nQ (pv 0)) (qF (c_int)) (fun _ _ => rfl))) (qF (c_ix hu4 (c_nQ (pv 1)) (qF (c_int)) (fun _ _ => rfl))))) (qF (c_mul (qF (c_ix hu4 (c_nQ (pv 1)) (qF (c_int)) (fun _ _ => rfl))) (qF (c_ix hu4 (c_nQ (pv 0)) (qF (c_int)) (fun _ _ => rfl)))))))
noncomputable def g__law_index : Sx := sCons (sPar3 1 2 3 false false false (nF 0) (nF 0) (kD (.int 2))) (sCons (whileF (oB (b2 (nQ 2) (kD (.int 1)) cGt)) (sCons (sIf (oB (b2 (b2 (u1 (nQ 2) gInt) (nQ 3) aMod) (kD (.int 0)) cEq)) (sCons (sSet 1 (b2 (b2 (nQ 1) (nQ 3) aDiv) (b2 (nQ 3) (kD (.int 1)) aAdd) aMul)) (whileF (oB (b2 (b2 (u1 (nQ 2) gInt) (nQ 3) aMod) (kD (.int 0)) cEq)) (sSet 2 (b2 (nQ 2) (nQ 3) aDiv)) 3000)) (sNil)) (sSet 3 (b2 (nQ 3) (kD (.int 1)) aAdd))) 3000) (sRet (nF 1)))
noncomputable def h__law_index : Sx := xsCons (xsPar3 1 2 3 false false false (xnF 0) (xnF 0) (kD (.int 2))) (xsCons (xwhl (xoB (xb2 (xnQ 2) (kD (.int 1)) xGt)) (xsCons (xsIf (xoB (xb2 (xb2 (xu1 (xnQ 2) xInt) (xnQ 3) xMod) (kD (.int 0)) xEq)) (xsCons (xsSet 1 (xb2 (xb2 (xnQ 1) (xnQ 3) xDiv) (xb2 (xnQ 3) (kD (.int 1)) xAdd) xMul)) (xwhl (xoB (xb2 (xb2 (xu1 (xnQ 2) xInt) (xnQ 3) xMod) (kD (.int 0)) xEq)) (xsSet 2 (xb2 (xnQ 2) (xnQ 3) xDiv)) 3000)) (sNil)) (xsSet 3 (xb2 (xnQ 3) (kD (.int 1)) xAdd))) 3000) (xsRet (xnF 1)))
noncomputable def F__law_index : List PyData → Option PyData := xrunF 4 1 h__law_index
theorem hx__law_index : F__law_index = runF 4 1 g__law_index := by
  unfold F__law_index
  rw [xrunF_eq]
  congr 1
  unfold h__law_index g__law_index
  simp only [xAdd_eq, xDiv_eq, xEq_eq, xGt_eq, xInt_eq, xMod_eq, xMul_eq, xb2_eq, xnF_eq, xnQ_eq, xoB_eq, xsCons_eq, xsIf_eq, xsPar3_eq, xsRet_eq, xsSet_eq, xu1_eq, xwhl_eq]
noncomputable def tab__law_index : List (List Int × PyData) := [([Int.ofNat 1], .int (Int.ofNat 1)), ([Int.ofNat 2], .int (Int.ofNat 3)), ([Int.ofNat 3], .int (Int.ofNat 4)), ([Int.ofNat 4], .int (Int.ofNat 6)), ([Int.ofNat 5], .int (Int.ofNat 6)), ([Int.ofNat 6], .int (Int.ofNat 12)), ([Int.ofNat 7], .int (Int.ofNat 8)), ([Int.ofNat 8], .int (Int.ofNat 12)), ([Int.ofNat 10], .int (Int.ofNat 18)), ([Int.ofNat 12], .int (Int.ofNat 24)), ([Int.ofNat 15], .int (Int.ofNat 24)), ([Int.ofNat 24], .int (Int.ofNat 48))]
noncomputable def T__law_index : List PyData → Option PyData := xtab (look tab__law_index) F__law_index
theorem T__law_index_eq : T__law_index = F__law_index := tab_eq (by kernel_rfl)
theorem sc__law_index : FnScope ["_law_level", "_law_found", "_law_left", "_law_prime"] ["_law_level"] (defScope (top 119)) := ⟨rfl, rfl, rfl, by decide +kernel, rfl, by decide +kernel, by decide +kernel⟩
theorem cal__law_index (M : Mg mg) (FD : FunD K "_law_index" "_law_index" (defArgs (top 119)) (defBody (top 119)) (defScope (top 119)) [] [] f fd) (hm : mg "_law_index" = some (.ref f))  : CF P w K mg base 1 "_law_index" F__law_index := by
  rw [hx__law_index]
  exact fn_F (g := g__law_index) (k := 0) FD hm (FD.bindsN fun _ _ _ _ _ _ us hl => match us, hl with | [_], _ => rfl) sc__law_index fun cdv A outer s H E hr =>
    have nd := sc__law_index.nd
    have hu4 := room4 hr
    have hu5 := room5 hr
    l_cons (s_par3 (o1 := false) (o2 := false) (o3 := false) (i := 1) (j := 2) (l := 3) rfl nd rfl rfl rfl (by decide) (by decide) (by decide) rfl rfl rfl (c_nF (pv 0)) (c_nF (pv 0)) (c_int) rfl) (l_cons (s_while PassesOwn.never (b_gt (c_nQ (pv 2)) (qF (c_int))) (l_cons (s_if (b_eq hu4 (qF (c_mod (qF (c_int1 rfl M.b_int (c_nQ (pv 2)))) (c_nQ (pv 3)))) (qF (c_int))) (l_cons (s_setF (i := 1) nd rfl (Or.inl rfl) (c_mul (qF (c_div (c_nQ (pv 1)) (c_nQ (pv 3)))) (qF (c_add (c_nQ (pv 3)) (qF (c_int)))))) (l_one (s_while PassesOwn.never (b_eq hu4 (qF (c_mod (qF (c_int1 rfl M.b_int (c_nQ (pv 2)))) (c_nQ (pv 3)))) (qF (c_int))) (l_one (s_setF (i := 2) nd rfl (Or.inl rfl) (c_div (c_nQ (pv 2)) (c_nQ (pv 3)))))))) (l_nil)) (l_one (s_setF (i := 3) nd rfl (Or.inl rfl) (c_add (c_nQ (pv 3)) (qF (c_int))))))) (l_one (s_retF (c_nF (pv 1)))))
noncomputable def g__law_power_sum : Sx := sRet (u1 (fLc (ksOf (nF 0)) (bNm 1) (bYes) (b2 (nQ 0) (nQ 1) gIx) [1]) gSum)
noncomputable def h__law_power_sum : Sx := xsRet (xu1 (xfLc (ksOf (xnF 0)) (xbNm 1) (bYes) (xb2 (xnQ 0) (xnQ 1) xIx) [1]) gSum)
noncomputable def F__law_power_sum : List PyData → Option PyData := xrunF 2 1 h__law_power_sum
theorem hx__law_power_sum : F__law_power_sum = runF 2 1 g__law_power_sum := by
  unfold F__law_power_sum
  rw [xrunF_eq]
  congr 1
  unfold h__law_power_sum g__law_power_sum
  simp only [xIx_eq, xb2_eq, xbNm_eq, xfLc_eq, xnF_eq, xnQ_eq, xsRet_eq, xu1_eq]
theorem sc__law_power_sum : FnScope ["_law_powers", "_law_step"] ["_law_powers"] (defScope (top 121)) := ⟨rfl, rfl, rfl, by decide +kernel, rfl, by decide +kernel, by decide +kernel⟩
theorem cal__law_power_sum (M : Mg mg) (FD : FunD K "_law_power_sum" "_law_power_sum" (defArgs (top 121)) (defBody (top 121)) (defScope (top 121)) [] [] f fd) (hm : mg "_law_power_sum" = some (.ref f))  : CF P w K mg base 1 "_law_power_sum" F__law_power_sum := by
  rw [hx__law_power_sum]
  exact fn_F (g := g__law_power_sum) (k := 0) FD hm (FD.bindsN fun _ _ _ _ _ _ us hl => match us, hl with | [_], _ => rfl) sc__law_power_sum fun cdv A outer s H E hr =>
    have nd := sc__law_power_sum.nd
    have hu4 := room4 hr
    have hu5 := room5 hr
    l_one (s_retF (c_sum rfl rfl M.b_sum (qO (c_lcK (own := [("_law_step", 1)]) rfl nd (pv 0) (blkOk_by (N := ["_law_powers", "_law_step"]) (sc := defScope (top 121)) (by decide +kernel)) (fun _ _ _ _ _ => g_nm (pg_name nd rfl (by first | exact Or.inl rfl | exact Or.inr rfl) (i := 1))) (fun _ _ _ _ _ => t_nil) (fun _ _ _ _ _ => c_ix hu4 (c_nQ (pv 0)) (c_nQ (pv 1)) (fun _ _ => rfl)) (by decide)))))
end
end Q7

-- part Rd
set_option Elab.async false
set_option linter.all false
set_option maxRecDepth 100000
set_option maxHeartbeats 0
namespace Q7
open PySem PySem.Spec PyProof.Rows L2
open C8 (Cal pe_c)
section
variable {P : Program} {w : World} {K : PySem.W.Frag} {mg : Str → Option Value} {base : Heap} {f : Addr} {fd : FuncData}
noncomputable def g__law_step_sum : Sx := sRet (u1 (fLc (ksOf (nF 0)) (bNm 1) (bYes) (b2 (nQ 1) (b2 (nQ 0) (nQ 1) gIx) aMul) [1]) gSum)
noncomputable def h__law_step_sum : Sx := xsRet (xu1 (xfLc (ksOf (xnF 0)) (xbNm 1) (bYes) (xb2 (xnQ 1) (xb2 (xnQ 0) (xnQ 1) xIx) xMul) [1]) gSum)
noncomputable def F__law_step_sum : List PyData → Option PyData := xrunF 2 1 h__law_step_sum
theorem hx__law_step_sum : F__law_step_sum = runF 2 1 g__law_step_sum := by
  unfold F__law_step_sum
  rw [xrunF_eq]
  congr 1
  unfold h__law_step_sum g__law_step_sum
  simp only [xIx_eq, xMul_eq, xb2_eq, xbNm_eq, xfLc_eq, xnF_eq, xnQ_eq, xsRet_eq, xu1_eq]
theorem sc__law_step_sum : FnScope ["_law_powers", "_law_step"] ["_law_powers"] (defScope (top 122)) := ⟨rfl, rfl, rfl, by decide +kernel, rfl, by decide +kernel, by decide +kernel⟩
theorem cal__law_step_sum (M : Mg mg) (FD : FunD K "_law_step_sum" "_law_step_sum" (defArgs (top 122)) (defBody (top 122)) (defScope (top 122)) [] [] f fd) (hm : mg "_law_step_sum" = some (.ref f))  : CF P w K mg base 1 "_law_step_sum" F__law_step_sum := by
  rw [hx__law_step_sum]
  exact fn_F (g := g__law_step_sum) (k := 0) FD hm (FD.bindsN fun _ _ _ _ _ _ us hl => match us, hl with | [_], _ => rfl) sc__law_step_sum fun cdv A outer s H E hr =>
    have nd := sc__law_step_sum.nd
    have hu4 := room4 hr
    have hu5 := room5 hr
    l_one (s_retF (c_sum rfl rfl M.b_sum (qO (c_lcK (own := [("_law_step", 1)]) rfl nd (pv 0) (blkOk_by (N := ["_law_powers", "_law_step"]) (sc := defScope (top 122)) (by decide +kernel)) (fun _ _ _ _ _ => g_nm (pg_name nd rfl (by first | exact Or.inl rfl | exact Or.inr rfl) (i := 1))) (fun _ _ _ _ _ => t_nil) (fun _ _ _ _ _ => c_mul (c_nQ (pv 1)) (qF (c_ix hu4 (c_nQ (pv 0)) (c_nQ (pv 1)) (fun _ _ => rfl)))) (by decide)))))
noncomputable def g__law_turned_sum : Sx := sRet (u1 (fLc (ksOf (nF 0)) (bNm 2) (bYes) (b2 (b2 (nQ 1) (nQ 2) aDiv) (b2 (nQ 0) (nQ 2) gIx) aMul) [2]) gSum)
noncomputable def h__law_turned_sum : Sx := xsRet (xu1 (xfLc (ksOf (xnF 0)) (xbNm 2) (bYes) (xb2 (xb2 (xnQ 1) (xnQ 2) xDiv) (xb2 (xnQ 0) (xnQ 2) xIx) xMul) [2]) gSum)
noncomputable def F__law_turned_sum : List PyData → Option PyData := xrunF 3 2 h__law_turned_sum
theorem hx__law_turned_sum : F__law_turned_sum = runF 3 2 g__law_turned_sum := by
  unfold F__law_turned_sum
  rw [xrunF_eq]
  congr 1
  unfold h__law_turned_sum g__law_turned_sum
  simp only [xDiv_eq, xIx_eq, xMul_eq, xb2_eq, xbNm_eq, xfLc_eq, xnF_eq, xnQ_eq, xsRet_eq, xu1_eq]
theorem sc__law_turned_sum : FnScope ["_law_powers", "_law_level", "_law_step"] ["_law_powers", "_law_level"] (defScope (top 123)) := ⟨rfl, rfl, rfl, by decide +kernel, rfl, by decide +kernel, by decide +kernel⟩
theorem cal__law_turned_sum (M : Mg mg) (FD : FunD K "_law_turned_sum" "_law_turned_sum" (defArgs (top 123)) (defBody (top 123)) (defScope (top 123)) [] [] f fd) (hm : mg "_law_turned_sum" = some (.ref f))  : CF P w K mg base 1 "_law_turned_sum" F__law_turned_sum := by
  rw [hx__law_turned_sum]
  exact fn_F (g := g__law_turned_sum) (k := 0) FD hm (FD.bindsN fun _ _ _ _ _ _ us hl => match us, hl with | [_, _], _ => rfl) sc__law_turned_sum fun cdv A outer s H E hr =>
    have nd := sc__law_turned_sum.nd
    have hu4 := room4 hr
    have hu5 := room5 hr
    l_one (s_retF (c_sum rfl rfl M.b_sum (qO (c_lcK (own := [("_law_step", 2)]) rfl nd (pv 0) (blkOk_by (N := ["_law_powers", "_law_level", "_law_step"]) (sc := defScope (top 123)) (by decide +kernel)) (fun _ _ _ _ _ => g_nm (pg_name nd rfl (by first | exact Or.inl rfl | exact Or.inr rfl) (i := 2))) (fun _ _ _ _ _ => t_nil) (fun _ _ _ _ _ => c_mul (qF (c_div (c_nQ (pv 1)) (c_nQ (pv 2)))) (qF (c_ix hu4 (c_nQ (pv 0)) (c_nQ (pv 2)) (fun _ _ => rfl)))) (by decide)))))
noncomputable def g__law_product : Sx := sRet (fTup (aCons (kD (.str "product")) (aCons (u1 (u1 (fLc (ksOf (nF 0)) (bNm 1) (oB (b2 (b2 (nQ 0) (nQ 1) gIx) (kD (.int 0)) cNe)) (fTup (aCons (nF 1) (aCons (b2 (nQ 0) (nQ 1) gIx) (aNil)))) [1]) gSortD) gTupl) (aNil))))
noncomputable def h__law_product : Sx := xsRet (xfTup (xaCons (kD (.str "product")) (xaCons (xu1 (xu1 (xfLc (ksOf (xnF 0)) (xbNm 1) (xoB (xb2 (xb2 (xnQ 0) (xnQ 1) xIx) (kD (.int 0)) xNe)) (xfTup (xaCons (xnF 1) (xaCons (xb2 (xnQ 0) (xnQ 1) xIx) (aNil)))) [1]) gSortD) gTupl) (aNil))))
noncomputable def F__law_product : List PyData → Option PyData := xrunF 2 1 h__law_product
theorem hx__law_product : F__law_product = runF 2 1 g__law_product := by
  unfold F__law_product
  rw [xrunF_eq]
  congr 1
  unfold h__law_product g__law_product
  simp only [xIx_eq, xNe_eq, xaCons_eq, xb2_eq, xbNm_eq, xfLc_eq, xfTup_eq, xnF_eq, xnQ_eq, xoB_eq, xsRet_eq, xu1_eq]
theorem sc__law_product : FnScope ["_law_powers", "_law_step"] ["_law_powers"] (defScope (top 124)) := ⟨rfl, rfl, rfl, by decide +kernel, rfl, by decide +kernel, by decide +kernel⟩
theorem cal__law_product (M : Mg mg) (FD : FunD K "_law_product" "_law_product" (defArgs (top 124)) (defBody (top 124)) (defScope (top 124)) [] [] f fd) (hm : mg "_law_product" = some (.ref f))  : CF P w K mg base 1 "_law_product" F__law_product := by
  rw [hx__law_product]
  exact fn_F (g := g__law_product) (k := 0) FD hm (FD.bindsN fun _ _ _ _ _ _ us hl => match us, hl with | [_], _ => rfl) sc__law_product fun cdv A outer s H E hr =>
    have nd := sc__law_product.nd
    have hu4 := room4 hr
    have hu5 := room5 hr
    l_one (s_retF (c_tup (a_cons (c_str) (a_cons (c_tuple rfl M.b_tuple (qO (c_sortD hu5 rfl M.b_sorted (qO (c_lcK (own := [("_law_step", 1)]) rfl nd (pv 0) (blkOk_by (N := ["_law_powers", "_law_step"]) (sc := defScope (top 124)) (by decide +kernel)) (fun _ _ _ _ _ => g_nm (pg_name nd rfl (by first | exact Or.inl rfl | exact Or.inr rfl) (i := 1))) (fun _ _ _ _ _ => t_one (b_ne hu4 (qF (c_ix hu4 (c_nQ (pv 0)) (c_nQ (pv 1)) (fun _ _ => rfl))) (qF (c_int)))) (fun _ _ _ _ _ => c_tup (a_cons (c_nF (pv 1)) (a_cons (c_ix hu4 (c_nQ (pv 0)) (c_nQ (pv 1)) (fun _ _ => rfl)) (a_nil)))) (by decide)))))) (a_nil)))))
noncomputable def g__law_row : Sx := sCons (sSetO 2 (b2 (fLst (aCons (kD (.int 0)) (aNil))) (b2 (kD (.int 1)) (nQ 1) gMax2) aRep)) (sCons (sFor (ksOf (nF 0)) (bNm 3) (sFor (r3Of (nQ 3) (nQ 1) (nQ 3)) (bNm 6) (sFor (r3Of (nQ 6) (nQ 1) (nQ 6)) (bNm 7) (sSt 2 (nQ 7) (b2 (b2 (nQ 2) (nQ 7) gIx) (b2 (nQ 6) (b2 (nQ 0) (nQ 3) gIx) aMul) aSub) putQ)))) (sCons (sSetO 4 (fLst (aCons (kD (.int 1)) (aNil)))) (sCons (sFor (r2Of (kD (.int 1)) (nQ 1)) (bNm 5) (sApp 4 (b2 (fDotK 2 4 5 8) (nQ 5) aDiv))) (sRet (slL (nQ 4) (noP) (soP (nQ 1)))))))
noncomputable def T_st__law_row_0 : Sx := xForSt 7 2 (xr3 (xnQ 6) (xnQ 1) (xnQ 6)) (xb2 (xnQ 6) (xb2 (xnQ 0) (xnQ 3) xIx) xMul) iSub (xsFor (xr3 (xnQ 6) (xnQ 1) (xnQ 6)) (xbNm 7) (xsSt 2 (xnQ 7) (xb2 (xb2 (xnQ 2) (xnQ 7) xIx) (xb2 (xnQ 6) (xb2 (xnQ 0) (xnQ 3) xIx) xMul) xSub) xputQ))
theorem T_st__law_row_0_eq : T_st__law_row_0 = sFor (r3Of (nQ 6) (nQ 1) (nQ 6)) (bNm 7) (sSt 2 (nQ 7) (b2 (b2 (nQ 2) (nQ 7) gIx) (b2 (nQ 6) (b2 (nQ 0) (nQ 3) gIx) aMul) aSub) putQ) := by
  unfold T_st__law_row_0
  simp only [xIx_eq, xMul_eq, xSub_eq, xb2_eq, xbNm_eq, xnQ_eq, xputQ_eq, xr3_eq, xsFor_eq, xsSt_eq]
  exact xForSt_eq (by decide) (iv_b2 (iv_nQ (by decide)) (iv_b2 (iv_nQ (by decide)) (iv_nQ (by decide)))) (iv_b2 (iv_nQ (by decide)) (iv_b2 (iv_nQ (by decide)) (iv_nQ (by decide)))) (fun a v => congrArg (fun z => some (PyData.int z)) (iSub_eq a v).symm)
noncomputable def h__law_row : Sx := xsCons (xsSetO 2 (xb2 (fLst (xaCons (kD (.int 0)) (aNil))) (xb2 (kD (.int 1)) (xnQ 1) gMax2) aRep)) (xsCons (xsFor (ksOf (xnF 0)) (xbNm 3) (xsFor (xr3 (xnQ 3) (xnQ 1) (xnQ 3)) (xbNm 6) T_st__law_row_0)) (xsCons (xsSetO 4 (fLst (xaCons (kD (.int 1)) (aNil)))) (xsCons (xsFor (xr2 (kD (.int 1)) (xnQ 1)) (xbNm 5) (xsApp 4 (xb2 (xfDotK 2 4 5 8) (xnQ 5) xDiv))) (xsRet (slL (xnQ 4) (noP) (soP (xnQ 1)))))))
noncomputable def F__law_row : List PyData → Option PyData := xrunF 9 2 h__law_row
theorem hx__law_row : F__law_row = runF 9 2 g__law_row := by
  unfold F__law_row
  rw [xrunF_eq]
  congr 1
  unfold h__law_row g__law_row
  simp only [T_st__law_row_0_eq, xDiv_eq, xIx_eq, xMul_eq, xSub_eq, xaCons_eq, xb2_eq, xbNm_eq, xfDotK_eq, xnF_eq, xnQ_eq, xputQ_eq, xr2_eq, xr3_eq, xsApp_eq, xsCons_eq, xsFor_eq, xsRet_eq, xsSetO_eq, xsSt_eq]
theorem sc__law_row : FnScope ["_law_powers", "_law_many", "_law_sums", "_law_step", "_law_found", "_law_n", "_law_size", "_law_place_here", "_law_k"] ["_law_powers", "_law_many"] (defScope (top 128)) := ⟨rfl, rfl, rfl, by decide +kernel, rfl, by decide +kernel, by decide +kernel⟩
theorem cal__law_row (M : Mg mg) (FD : FunD K "_law_row" "_law_row" (defArgs (top 128)) (defBody (top 128)) (defScope (top 128)) [] [] f fd) (hm : mg "_law_row" = some (.ref f))  : CF P w K mg base 1 "_law_row" F__law_row := by
  rw [hx__law_row]
  exact fn_F (g := g__law_row) (k := 0) FD hm (FD.bindsN fun _ _ _ _ _ _ us hl => match us, hl with | [_, _], _ => rfl) sc__law_row fun cdv A outer s H E hr =>
    have nd := sc__law_row.nd
    have hu4 := room4 hr
    have hu5 := room5 hr
    l_cons (s_setO (i := 2) nd rfl (Or.inr rfl) (c_rep (wO (c_lst (a_cons (c_int) (a_nil)))) (qF (c_max2 rfl rfl M.b_max (qF (c_int)) (c_nQ (pv 1)))))) (l_cons (s_forK lkF PassesOwn.never rfl (pv 0) (g_nm (pg_name nd rfl (by first | exact Or.inl rfl | exact Or.inr rfl) (i := 3))) (l_one (s_for PassesOwn.never rfl (i_rg3 rfl M.b_range (c_nQ (pv 3)) (c_nQ (pv 1)) (c_nQ (pv 3))) (g_nm (pg_name nd rfl (by first | exact Or.inl rfl | exact Or.inr rfl) (i := 6))) (l_one (s_for PassesOwn.never rfl (i_rg3 rfl M.b_range (c_nQ (pv 6)) (c_nQ (pv 1)) (c_nQ (pv 6))) (g_nm (pg_name nd rfl (by first | exact Or.inl rfl | exact Or.inr rfl) (i := 7))) (l_one (s_lput (pv 2) (c_nQ (pv 7)) (c_sub (qF (c_ix hu4 (c_nQ (pv 2)) (c_nQ (pv 7)) (fun _ _ => rfl))) (qF (c_mul (c_nQ (pv 6)) (qF (c_ix hu4 (c_nQ (pv 0)) (c_nQ (pv 3)) (fun _ _ => rfl))))))))))))) (l_cons (s_setO (i := 4) nd rfl (Or.inr rfl) (c_lst (a_cons (c_int) (a_nil)))) (l_cons (s_for PassesOwn.never rfl (i_rg2 rfl M.b_range (qF (c_int)) (c_nQ (pv 1))) (g_nm (pg_name nd rfl (by first | exact Or.inl rfl | exact Or.inr rfl) (i := 5))) (l_one (s_app (pe_bm PySem.F.plainAttrs_list PySem.F.slot_list_append PySem.F.type_list_append mt_append (pv 4) (pa_cons (c_div (qF (c_dot (c_sum rfl rfl M.b_sum (qO (c_lc (own := [("_law_k", 8)]) rfl nd (i_rg2 rfl M.b_range (qF (c_int)) (qF (c_add (c_nQ (pv 5)) (qF (c_int))))) (blkOk_by (N := ["_law_powers", "_law_many", "_law_sums", "_law_step", "_law_found", "_law_n", "_law_size", "_law_place_here", "_law_k"]) (sc := defScope (top 128)) (by decide +kernel)) (fun _ _ _ _ _ => g_nm (pg_name nd rfl (by first | exact Or.inl rfl | exact Or.inr rfl) (i := 8))) (fun _ _ _ _ _ => t_nil) (fun _ _ _ _ _ => c_mul (qF (c_ix hu4 (c_nQ (pv 2)) (c_nQ (pv 8)) (fun _ _ => rfl))) (qF (c_ix hu4 (c_nQ (pv 4)) (qF (c_sub (c_nQ (pv 5)) (c_nQ (pv 8)))) (fun _ _ => rfl)))) (by decide)))))) (c_nQ (pv 5))) pa_nil))))) (l_one (s_retF (fO (c_slL (c_nQ (pv 4)) (p_no) (p_so (c_nQ (pv 1))))))))))
noncomputable def g__law_is_even_right : Sx := sCons (sPar2 5 6 false false (kD (.int 0)) (kD (.int 1))) (sCons (sFor (sqOf (nF 1)) (bNm 4) (sCons (sSet 7 (nF 4)) (sCons (whileF (oB (b2 (b2 (u1 (nQ 7) gInt) (kD (.int 2)) aMod) (kD (.int 0)) cEq)) (sPar2 7 5 false false (b2 (nQ 7) (kD (.int 2)) aDiv) (b2 (nQ 5) (u1 (b2 (nQ 0) (nQ 4) gIx) gAbs) aAdd)) 3000) (sSet 6 (iF (oB (b2 (b2 (u1 (b2 (nQ 0) (nQ 4) gIx) gInt) (kD (.int 2)) aMod) (kD (.int 0)) cEq)) (b2 (nQ 6) (b2 (nQ 7) (kD (.int 2)) aPow) aMul) (b2 (nQ 6) (nQ 7) aMul)))))) (sCons (sIf (bAnd (oB (b2 (b2 (u1 (nQ 2) gInt) (kD (.int 4)) aMod) (kD (.int 0)) cEq)) (oB (b2 (b2 (u1 (b2 (nQ 5) (nQ 3) aMul) gInt) (kD (.int 8)) aMod) (kD (.int 0)) cEq))) (sRet (kD (.bool true))) (sNil)) (sRet (vAnd (b2 (b2 (u1 (nQ 5) gInt) (kD (.int 2)) aMod) (kD (.int 0)) cEq) (b2 (b2 (u1 (b2 (nQ 3) (b2 (kD (.int 1)) (nQ 6) aSub) aMul) gInt) (kD (.int 8)) aMod) (kD (.int 0)) cEq)))))
noncomputable def h__law_is_even_right : Sx := xsCons (xsPar2 5 6 false false (kD (.int 0)) (kD (.int 1))) (xsCons (xsFor (xsqOf (xnF 1)) (xbNm 4) (xsCons (xsSet 7 (xnF 4)) (xsCons (xwhl (xoB (xb2 (xb2 (xu1 (xnQ 7) xInt) (kD (.int 2)) xMod) (kD (.int 0)) xEq)) (xsPar2 7 5 false false (xb2 (xnQ 7) (kD (.int 2)) xDiv) (xb2 (xnQ 5) (xu1 (xb2 (xnQ 0) (xnQ 4) xIx) xAbs) xAdd)) 3000) (xsSet 6 (xiF (xoB (xb2 (xb2 (xu1 (xb2 (xnQ 0) (xnQ 4) xIx) xInt) (kD (.int 2)) xMod) (kD (.int 0)) xEq)) (xb2 (xnQ 6) (xb2 (xnQ 7) (kD (.int 2)) aPow) xMul) (xb2 (xnQ 6) (xnQ 7) xMul)))))) (xsCons (xsIf (xbAnd (xoB (xb2 (xb2 (xu1 (xnQ 2) xInt) (kD (.int 4)) xMod) (kD (.int 0)) xEq)) (xoB (xb2 (xb2 (xu1 (xb2 (xnQ 5) (xnQ 3) xMul) xInt) (kD (.int 8)) xMod) (kD (.int 0)) xEq))) (xsRet (kD (.bool true))) (sNil)) (xsRet (xvAnd (xb2 (xb2 (xu1 (xnQ 5) xInt) (kD (.int 2)) xMod) (kD (.int 0)) xEq) (xb2 (xb2 (xu1 (xb2 (xnQ 3) (xb2 (kD (.int 1)) (xnQ 6) xSub) xMul) xInt) (kD (.int 8)) xMod) (kD (.int 0)) xEq)))))
noncomputable def F__law_is_even_right : List PyData → Option PyData := xrunF 8 4 h__law_is_even_right
theorem hx__law_is_even_right : F__law_is_even_right = runF 8 4 g__law_is_even_right := by
  unfold F__law_is_even_right
  rw [xrunF_eq]
  congr 1
  unfold h__law_is_even_right g__law_is_even_right
  simp only [xAbs_eq, xAdd_eq, xDiv_eq, xEq_eq, xInt_eq, xIx_eq, xMod_eq, xMul_eq, xSub_eq, xb2_eq, xbAnd_eq, xbNm_eq, xiF_eq, xnF_eq, xnQ_eq, xoB_eq, xsCons_eq, xsFor_eq, xsIf_eq, xsPar2_eq, xsRet_eq, xsSet_eq, xsqOf_eq, xu1_eq, xvAnd_eq, xwhl_eq]
theorem sc__law_is_even_right : FnScope ["_law_powers", "_law_some", "_law_number", "_law_level", "_law_step", "_law_twos", "_law_odd", "_law_left"] ["_law_powers", "_law_some", "_law_number", "_law_level"] (defScope (top 132)) := ⟨rfl, rfl, rfl, by decide +kernel, rfl, by decide +kernel, by decide +kernel⟩
theorem cal__law_is_even_right (M : Mg mg) (FD : FunD K "_law_is_even_right" "_law_is_even_right" (defArgs (top 132)) (defBody (top 132)) (defScope (top 132)) [] [] f fd) (hm : mg "_law_is_even_right" = some (.ref f))  : CF P w K mg base 1 "_law_is_even_right" F__law_is_even_right := by
  rw [hx__law_is_even_right]
  exact fn_F (g := g__law_is_even_right) (k := 0) FD hm (FD.bindsN fun _ _ _ _ _ _ us hl => match us, hl with | [_, _, _, _], _ => rfl) sc__law_is_even_right fun cdv A outer s H E hr =>
    have nd := sc__law_is_even_right.nd
    have hu4 := room4 hr
    have hu5 := room5 hr
    l_cons (s_parT2 (o1 := false) (o2 := false) (i := 5) (j := 6) (c_int) (c_int) (pg_tup rfl (pgs_cons (pg_name nd rfl (Or.inl rfl) (i := 5)) (pgs_cons (pg_name nd rfl (Or.inl rfl) (i := 6)) (pgs_nil))))) (l_cons (s_for PassesOwn.never rfl (i_sq (c_nF (pv 1))) (g_nm (pg_name nd rfl (by first | exact Or.inl rfl | exact Or.inr rfl) (i := 4))) (l_cons (s_setF (i := 7) nd rfl (Or.inl rfl) (c_nF (pv 4))) (l_cons (s_while PassesOwn.never (b_eq hu4 (qF (c_mod (qF (c_int1 rfl M.b_int (c_nQ (pv 7)))) (qF (c_int)))) (qF (c_int))) (l_one (s_par2 (o1 := false) (o2 := false) (i := 7) (j := 5) rfl nd rfl rfl (by decide) rfl rfl (c_div (c_nQ (pv 7)) (qF (c_int))) (c_add (c_nQ (pv 5)) (qF (c_abs rfl M.b_abs (qF (c_ix hu4 (c_nQ (pv 0)) (c_nQ (pv 4)) (fun _ _ => rfl)))))) rfl))) (l_one (s_setF (i := 6) nd rfl (Or.inl rfl) (c_if (b_eq hu4 (qF (c_mod (qF (c_int1 rfl M.b_int (qF (c_ix hu4 (c_nQ (pv 0)) (c_nQ (pv 4)) (fun _ _ => rfl))))) (qF (c_int)))) (qF (c_int))) (c_mul (c_nQ (pv 6)) (qF (c_pow (c_nQ (pv 7)) (qF (c_int))))) (c_mul (c_nQ (pv 6)) (c_nQ (pv 7))))))))) (l_cons (s_if (b_w (w_and (b_eq hu4 (qF (c_mod (qF (c_int1 rfl M.b_int (c_nQ (pv 2)))) (qF (c_int)))) (qF (c_int))) (w_and1 (b_eq hu4 (qF (c_mod (qF (c_int1 rfl M.b_int (qF (c_mul (c_nQ (pv 5)) (c_nQ (pv 3)))))) (qF (c_int)))) (qF (c_int)))))) (l_one (s_retF (c_bool))) (l_nil)) (l_one (s_retF (c_and (c_eq hu4 (qF (c_mod (qF (c_int1 rfl M.b_int (c_nQ (pv 5)))) (qF (c_int)))) (qF (c_int))) (c_one (c_eq hu4 (qF (c_mod (qF (c_int1 rfl M.b_int (qF (c_mul (c_nQ (pv 3)) (qF (c_sub (qF (c_int)) (c_nQ (pv 6)))))))) (qF (c_int)))) (qF (c_int)))))))))
noncomputable def g__law_both : Sx := sCons (sSetO 2 (kD (.dict []))) (sCons (sFor (sqOf (u1 (b2 (u1 (nQ 0) gList) (u1 (nQ 1) gList) aCatL) gSortS)) (bNm 3) (sSt 2 (nQ 3) (b2 (b3 (nQ 0) (nQ 3) (kD (.int 0)) gGet) (b3 (nQ 1) (nQ 3) (kD (.int 0)) gGet) aAdd) putK')) (sFz 2 (sRet (nF 2))))
noncomputable def h__law_both : Sx := xsCons (xsSetO 2 (kD (.dict []))) (xsCons (xsFor (xsqOf (xu1 (xb2 (xu1 (xnQ 0) gList) (xu1 (xnQ 1) gList) aCatL) gSortS)) (xbNm 3) (xsSt 2 (xnQ 3) (xb2 (xb3 (xnQ 0) (xnQ 3) (kD (.int 0)) gGet) (xb3 (xnQ 1) (xnQ 3) (kD (.int 0)) gGet) xAdd) putK')) (xsFz 2 (xsRet (xnF 2))))
noncomputable def F__law_both : List PyData → Option PyData := xrunF 4 2 h__law_both
theorem hx__law_both : F__law_both = runF 4 2 g__law_both := by
  unfold F__law_both
  rw [xrunF_eq]
  congr 1
  unfold h__law_both g__law_both
  simp only [xAdd_eq, xb2_eq, xb3_eq, xbNm_eq, xnF_eq, xnQ_eq, xsCons_eq, xsFor_eq, xsFz_eq, xsRet_eq, xsSetO_eq, xsSt_eq, xsqOf_eq, xu1_eq]
theorem sc__law_both : FnScope ["_law_one", "_law_other", "_law_found", "_law_step"] ["_law_one", "_law_other"] (defScope (top 140)) := ⟨rfl, rfl, rfl, by decide +kernel, rfl, by decide +kernel, by decide +kernel⟩
noncomputable def g_is_count : Sx := sRet (vAnd (fCall (aCons (nF 0) (aNil)) F_is_integer) (b2 (nQ 0) (kD (.int 0)) cGe))
noncomputable def h_is_count : Sx := xsRet (xvAnd (xfCall (xaCons (xnF 0) (aNil)) F_is_integer) (xb2 (xnQ 0) (kD (.int 0)) xGe))
noncomputable def F_is_count : List PyData → Option PyData := xrunF 1 1 h_is_count
theorem hx_is_count : F_is_count = runF 1 1 g_is_count := by
  unfold F_is_count
  rw [xrunF_eq]
  congr 1
  unfold h_is_count g_is_count
  simp only [xGe_eq, xaCons_eq, xb2_eq, xfCall_eq, xnF_eq, xnQ_eq, xsRet_eq, xvAnd_eq]
theorem sc_is_count : FnScope ["value"] ["value"] (defScope (top 14)) := ⟨rfl, rfl, rfl, by decide +kernel, rfl, by decide +kernel, by decide +kernel⟩
theorem cal_is_count (M : Mg mg) (FD : FunD K "is_count" "is_count" (defArgs (top 14)) (defBody (top 14)) (defScope (top 14)) [] [] f fd) (hm : mg "is_count" = some (.ref f)) (c_is_integer : CF P w K mg base 1 "is_integer" F_is_integer) : CF P w K mg base 2 "is_count" F_is_count := by
  rw [hx_is_count]
  exact fn_F (g := g_is_count) (k := 1) FD hm (FD.bindsN fun _ _ _ _ _ _ us hl => match us, hl with | [_], _ => rfl) sc_is_count fun cdv A outer s H E hr =>
    have nd := sc_is_count.nd
    have hu4 := room4 hr
    have hu5 := room5 hr
    l_one (s_retF (c_and (c_call bkF c_is_integer hr (by decide) rfl (a_cons (c_nF (pv 0)) (a_nil))) (c_one (c_ge (c_nQ (pv 0)) (qF (c_int))))))
noncomputable def g_is_between : Sx := sRet (vAnd (fCall (aCons (nF 0) (aNil)) F_is_integer) (ch3 (nQ 1) (nQ 0) (nQ 2) pLe pLe))
noncomputable def h_is_between : Sx := xsRet (xvAnd (xfCall (xaCons (xnF 0) (aNil)) F_is_integer) (ch3 (xnQ 1) (xnQ 0) (xnQ 2) pLe pLe))
noncomputable def F_is_between : List PyData → Option PyData := xrunF 3 3 h_is_between
theorem hx_is_between : F_is_between = runF 3 3 g_is_between := by
  unfold F_is_between
  rw [xrunF_eq]
  congr 1
  unfold h_is_between g_is_between
  simp only [xaCons_eq, xfCall_eq, xnF_eq, xnQ_eq, xsRet_eq, xvAnd_eq]
theorem sc_is_between : FnScope ["value", "least", "most"] ["value", "least", "most"] (defScope (top 15)) := ⟨rfl, rfl, rfl, by decide +kernel, rfl, by decide +kernel, by decide +kernel⟩
theorem cal_is_between (M : Mg mg) (FD : FunD K "is_between" "is_between" (defArgs (top 15)) (defBody (top 15)) (defScope (top 15)) [] [] f fd) (hm : mg "is_between" = some (.ref f)) (c_is_integer : CF P w K mg base 1 "is_integer" F_is_integer) : CF P w K mg base 2 "is_between" F_is_between := by
  rw [hx_is_between]
  exact fn_F (g := g_is_between) (k := 1) FD hm (FD.bindsN fun _ _ _ _ _ _ us hl => match us, hl with | [_, _, _], _ => rfl) sc_is_between fun cdv A outer s H E hr =>
    have nd := sc_is_between.nd
    have hu4 := room4 hr
    have hu5 := room5 hr
    l_one (s_retF (c_and (c_call bkF c_is_integer hr (by decide) rfl (a_cons (c_nF (pv 0)) (a_nil))) (c_one (c_ch op_le op_le (c_nQ (pv 1)) (c_nQ (pv 0)) (c_nQ (pv 2))))))
noncomputable def g_least_multiple : Sx := sRet (b2 (b2 (nQ 0) (fCall (aCons (nF 0) (aCons (nF 1) (aNil))) nGcd) aDiv) (nQ 1) aMul)
noncomputable def h_least_multiple : Sx := xsRet (xb2 (xb2 (xnQ 0) (xfCall (xaCons (xnF 0) (xaCons (xnF 1) (aNil))) nGcd) xDiv) (xnQ 1) xMul)
noncomputable def F_least_multiple : List PyData → Option PyData := xrunF 2 2 h_least_multiple
theorem hx_least_multiple : F_least_multiple = runF 2 2 g_least_multiple := by
  unfold F_least_multiple
  rw [xrunF_eq]
  congr 1
  unfold h_least_multiple g_least_multiple
  simp only [xDiv_eq, xMul_eq, xaCons_eq, xb2_eq, xfCall_eq, xnF_eq, xnQ_eq, xsRet_eq]
theorem sc_least_multiple : FnScope ["first", "second"] ["first", "second"] (defScope (top 21)) := ⟨rfl, rfl, rfl, by decide +kernel, rfl, by decide +kernel, by decide +kernel⟩
theorem cal_least_multiple (M : Mg mg) (FD : FunD K "least_multiple" "least_multiple" (defArgs (top 21)) (defBody (top 21)) (defScope (top 21)) [] [] f fd) (hm : mg "least_multiple" = some (.ref f)) (c_greatest_common : CF P w K mg base 1 "greatest_common" nGcd) : CF P w K mg base 2 "least_multiple" F_least_multiple := by
  rw [hx_least_multiple]
  exact fn_F (g := g_least_multiple) (k := 1) FD hm (FD.bindsN fun _ _ _ _ _ _ us hl => match us, hl with | [_, _], _ => rfl) sc_least_multiple fun cdv A outer s H E hr =>
    have nd := sc_least_multiple.nd
    have hu4 := room4 hr
    have hu5 := room5 hr
    l_one (s_retF (c_mul (qF (c_div (c_nQ (pv 0)) (qF (c_call bkF c_greatest_common hr (by decide) rfl (a_cons (c_nF (pv 0)) (a_cons (c_nF (pv 1)) (a_nil))))))) (c_nQ (pv 1))))
noncomputable def g_beside_count : Sx := sCons (sSet 1 (nF 0)) (sCons (sFor (sqOf (fCall (aCons (nF 0) (aNil)) F_primes_in)) (bTup 2 (bsCons (bNm 2) (bsCons (bNm 3) (bsNil)))) (sSet 1 (b2 (b2 (nQ 1) (nQ 2) aDiv) (b2 (nQ 2) (kD (.int 1)) aSub) aMul))) (sRet (nF 1)))
noncomputable def h_beside_count : Sx := xsCons (xsSet 1 (xnF 0)) (xsCons (xsFor (xsqOf (xfCall (xaCons (xnF 0) (aNil)) T_primes_in)) (xbTup 2 (xbsCons (xbNm 2) (xbsCons (xbNm 3) (bsNil)))) (xsSet 1 (xb2 (xb2 (xnQ 1) (xnQ 2) xDiv) (xb2 (xnQ 2) (kD (.int 1)) xSub) xMul))) (xsRet (xnF 1)))
noncomputable def F_beside_count : List PyData → Option PyData := xrunF 4 1 h_beside_count
theorem hx_beside_count : F_beside_count = runF 4 1 g_beside_count := by
  unfold F_beside_count
  rw [xrunF_eq]
  congr 1
  unfold h_beside_count g_beside_count
  simp only [T_primes_in_eq, xDiv_eq, xMul_eq, xSub_eq, xaCons_eq, xb2_eq, xbNm_eq, xbTup_eq, xbsCons_eq, xfCall_eq, xnF_eq, xnQ_eq, xsCons_eq, xsFor_eq, xsRet_eq, xsSet_eq, xsqOf_eq]
noncomputable def tab_beside_count : List (List Int × PyData) := [([Int.ofNat 1], .int (Int.ofNat 1)), ([Int.ofNat 2], .int (Int.ofNat 1))]
noncomputable def T_beside_count : List PyData → Option PyData := xtab (look tab_beside_count) F_beside_count
theorem T_beside_count_eq : T_beside_count = F_beside_count := tab_eq (by kernel_rfl)
theorem sc_beside_count : FnScope ["number", "found", "prime", "often"] ["number"] (defScope (top 24)) := ⟨rfl, rfl, rfl, by decide +kernel, rfl, by decide +kernel, by decide +kernel⟩
theorem cal_beside_count (M : Mg mg) (FD : FunD K "beside_count" "beside_count" (defArgs (top 24)) (defBody (top 24)) (defScope (top 24)) [] [] f fd) (hm : mg "beside_count" = some (.ref f)) (c_primes_in : CF P w K mg base 1 "primes_in" F_primes_in) : CF P w K mg base 2 "beside_count" F_beside_count := by
  rw [hx_beside_count]
  exact fn_F (g := g_beside_count) (k := 1) FD hm (FD.bindsN fun _ _ _ _ _ _ us hl => match us, hl with | [_], _ => rfl) sc_beside_count fun cdv A outer s H E hr =>
    have nd := sc_beside_count.nd
    have hu4 := room4 hr
    have hu5 := room5 hr
    l_cons (s_setF (i := 1) nd rfl (Or.inl rfl) (c_nF (pv 0))) (l_cons (s_for PassesOwn.never rfl (i_sq (c_call bkF c_primes_in hr (by decide) rfl (a_cons (c_nF (pv 0)) (a_nil)))) (g_tup rfl (gs_cons (g_nm (pg_name nd rfl (by first | exact Or.inl rfl | exact Or.inr rfl) (i := 2))) (gs_cons (g_nm (pg_name nd rfl (by first | exact Or.inl rfl | exact Or.inr rfl) (i := 3))) (gs_nil)))) (l_one (s_setF (i := 1) nd rfl (Or.inl rfl) (c_mul (qF (c_div (c_nQ (pv 1)) (c_nQ (pv 2)))) (qF (c_sub (c_nQ (pv 2)) (qF (c_int)))))))) (l_one (s_retF (c_nF (pv 1)))))
noncomputable def g_index_in : Sx := sCons (sSet 1 (nF 0)) (sCons (sFor (sqOf (fCall (aCons (nF 0) (aNil)) F_primes_in)) (bTup 2 (bsCons (bNm 2) (bsCons (bNm 3) (bsNil)))) (sSet 1 (b2 (b2 (nQ 1) (nQ 2) aDiv) (b2 (nQ 2) (kD (.int 1)) aAdd) aMul))) (sRet (nF 1)))
noncomputable def h_index_in : Sx := xsCons (xsSet 1 (xnF 0)) (xsCons (xsFor (xsqOf (xfCall (xaCons (xnF 0) (aNil)) T_primes_in)) (xbTup 2 (xbsCons (xbNm 2) (xbsCons (xbNm 3) (bsNil)))) (xsSet 1 (xb2 (xb2 (xnQ 1) (xnQ 2) xDiv) (xb2 (xnQ 2) (kD (.int 1)) xAdd) xMul))) (xsRet (xnF 1)))
noncomputable def F_index_in : List PyData → Option PyData := xrunF 4 1 h_index_in
theorem hx_index_in : F_index_in = runF 4 1 g_index_in := by
  unfold F_index_in
  rw [xrunF_eq]
  congr 1
  unfold h_index_in g_index_in
  simp only [T_primes_in_eq, xAdd_eq, xDiv_eq, xMul_eq, xaCons_eq, xb2_eq, xbNm_eq, xbTup_eq, xbsCons_eq, xfCall_eq, xnF_eq, xnQ_eq, xsCons_eq, xsFor_eq, xsRet_eq, xsSet_eq, xsqOf_eq]
noncomputable def tab_index_in : List (List Int × PyData) := [([Int.ofNat 1], .int (Int.ofNat 1)), ([Int.ofNat 2], .int (Int.ofNat 3)), ([Int.ofNat 3], .int (Int.ofNat 4)), ([Int.ofNat 4], .int (Int.ofNat 6)), ([Int.ofNat 5], .int (Int.ofNat 6)), ([Int.ofNat 6], .int (Int.ofNat 12)), ([Int.ofNat 7], .int (Int.ofNat 8)), ([Int.ofNat 8], .int (Int.ofNat 12)), ([Int.ofNat 10], .int (Int.ofNat 18)), ([Int.ofNat 12], .int (Int.ofNat 24)), ([Int.ofNat 15], .int (Int.ofNat 24)), ([Int.ofNat 24], .int (Int.ofNat 48))]
noncomputable def T_index_in : List PyData → Option PyData := xtab (look tab_index_in) F_index_in
theorem T_index_in_eq : T_index_in = F_index_in := tab_eq (by kernel_rfl)
theorem sc_index_in : FnScope ["level", "found", "prime", "often"] ["level"] (defScope (top 25)) := ⟨rfl, rfl, rfl, by decide +kernel, rfl, by decide +kernel, by decide +kernel⟩
theorem cal_index_in (M : Mg mg) (FD : FunD K "index_in" "index_in" (defArgs (top 25)) (defBody (top 25)) (defScope (top 25)) [] [] f fd) (hm : mg "index_in" = some (.ref f)) (c_primes_in : CF P w K mg base 1 "primes_in" F_primes_in) : CF P w K mg base 2 "index_in" F_index_in := by
  rw [hx_index_in]
  exact fn_F (g := g_index_in) (k := 1) FD hm (FD.bindsN fun _ _ _ _ _ _ us hl => match us, hl with | [_], _ => rfl) sc_index_in fun cdv A outer s H E hr =>
    have nd := sc_index_in.nd
    have hu4 := room4 hr
    have hu5 := room5 hr
    l_cons (s_setF (i := 1) nd rfl (Or.inl rfl) (c_nF (pv 0))) (l_cons (s_for PassesOwn.never rfl (i_sq (c_call bkF c_primes_in hr (by decide) rfl (a_cons (c_nF (pv 0)) (a_nil)))) (g_tup rfl (gs_cons (g_nm (pg_name nd rfl (by first | exact Or.inl rfl | exact Or.inr rfl) (i := 2))) (gs_cons (g_nm (pg_name nd rfl (by first | exact Or.inl rfl | exact Or.inr rfl) (i := 3))) (gs_nil)))) (l_one (s_setF (i := 1) nd rfl (Or.inl rfl) (c_mul (qF (c_div (c_nQ (pv 1)) (c_nQ (pv 2)))) (qF (c_add (c_nQ (pv 2)) (qF (c_int)))))))) (l_one (s_retF (c_nF (pv 1)))))
noncomputable def g_is_power_pair : Sx := sCons (sIf (bOr (bNot (oB (u1 (nQ 0) isT))) (bOr (oB (b2 (u1 (nQ 0) gLen) (kD (.int 2)) cNe)) (bNot (oB (u1 (fLc (sqOf (nF 0)) (bNm 1) (bYes) (fCall (aCons (nF 1) (aNil)) F_is_integer) [1]) gAll))))) (sRet (kD (.bool false))) (sNil)) (sRet (vAnd (ch3 (kD (.int 1)) (b2 (nQ 0) (kD (.int 0)) gIx) (kD (.int k_MOST_STEP_products)) pLe pLe) (vAnd (b2 (b2 (nQ 0) (kD (.int 1)) gIx) (kD (.int 0)) cNe) (b2 (u1 (b2 (nQ 0) (kD (.int 1)) gIx) gAbs) (kD (.int k_MOST_POWER)) cLe))))
noncomputable def h_is_power_pair : Sx := xsCons (xsIf (xbOr (xbNot (xoB (xu1 (xnQ 0) isT))) (xbOr (xoB (xb2 (xu1 (xnQ 0) gLen) (kD (.int 2)) xNe)) (xbNot (xoB (xu1 (xfLc (xsqOf (xnF 0)) (xbNm 1) (bYes) (xfCall (xaCons (xnF 1) (aNil)) F_is_integer) [1]) gAll))))) (xsRet (kD (.bool false))) (sNil)) (xsRet (xvAnd (ch3 (kD (.int 1)) (xb2 (xnQ 0) (kD (.int 0)) xIx) (kD (.int k_MOST_STEP_products)) pLe pLe) (xvAnd (xb2 (xb2 (xnQ 0) (kD (.int 1)) xIx) (kD (.int 0)) xNe) (xb2 (xu1 (xb2 (xnQ 0) (kD (.int 1)) xIx) xAbs) (kD (.int k_MOST_POWER)) xLe))))
noncomputable def F_is_power_pair : List PyData → Option PyData := xrunF 2 1 h_is_power_pair
theorem hx_is_power_pair : F_is_power_pair = runF 2 1 g_is_power_pair := by
  unfold F_is_power_pair
  rw [xrunF_eq]
  congr 1
  unfold h_is_power_pair g_is_power_pair
  simp only [xAbs_eq, xIx_eq, xLe_eq, xNe_eq, xaCons_eq, xb2_eq, xbNm_eq, xbNot_eq, xbOr_eq, xfCall_eq, xfLc_eq, xnF_eq, xnQ_eq, xoB_eq, xsCons_eq, xsIf_eq, xsRet_eq, xsqOf_eq, xu1_eq, xvAnd_eq]
theorem sc_is_power_pair : FnScope ["value", "one"] ["value"] (defScope (top 32)) := ⟨rfl, rfl, rfl, by decide +kernel, rfl, by decide +kernel, by decide +kernel⟩
theorem cal_is_power_pair (M : Mg mg) (FD : FunD K "is_power_pair" "is_power_pair" (defArgs (top 32)) (defBody (top 32)) (defScope (top 32)) [] [] f fd) (hm : mg "is_power_pair" = some (.ref f)) (c_is_integer : CF P w K mg base 1 "is_integer" F_is_integer) : CF P w K mg base 2 "is_power_pair" F_is_power_pair := by
  rw [hx_is_power_pair]
  exact fn_F (g := g_is_power_pair) (k := 1) FD hm (FD.bindsN fun _ _ _ _ _ _ us hl => match us, hl with | [_], _ => rfl) sc_is_power_pair fun cdv A outer s H E hr =>
    have nd := sc_is_power_pair.nd
    have hu4 := room4 hr
    have hu5 := room5 hr
    l_cons (s_if (b_w (w_or (b_not (b_val (c_isTup rfl M.b_isinstance rfl M.b_tuple (c_nQ (pv 0))))) (w_or (b_ne hu4 (qF (c_len rfl M.b_len (c_nQ (pv 0)))) (qF (c_int))) (w_or1 (b_not (b_val (c_all rfl rfl M.b_all (qO (c_lc (own := [("one", 1)]) rfl nd (i_sq (c_nF (pv 0))) (blkOk_by (N := ["value", "one"]) (sc := defScope (top 32)) (by decide +kernel)) (fun _ _ _ _ _ => g_nm (pg_name nd rfl (by first | exact Or.inl rfl | exact Or.inr rfl) (i := 1))) (fun _ _ _ _ _ => t_nil) (fun _ _ _ _ _ => c_call bkF c_is_integer hr (by decide) rfl (a_cons (c_nF (pv 1)) (a_nil))) (by decide)))))))))) (l_one (s_retF (c_bool))) (l_nil)) (l_one (s_retF (c_and (c_ch op_le op_le (qF (c_int)) (qF (c_ix hu4 (c_nQ (pv 0)) (qF (c_int)) (fun _ _ => rfl))) (qF (c_gint rfl M.c_MOST_STEP_products))) (c_and (c_ne hu4 (qF (c_ix hu4 (c_nQ (pv 0)) (qF (c_int)) (fun _ _ => rfl))) (qF (c_int))) (c_one (c_le (qF (c_abs rfl M.b_abs (qF (c_ix hu4 (c_nQ (pv 0)) (qF (c_int)) (fun _ _ => rfl))))) (qF (c_gint rfl M.c_MOST_POWER))))))))
end
end Q7

-- part Re
set_option Elab.async false
set_option linter.all false
set_option maxRecDepth 100000
set_option maxHeartbeats 0
namespace Q7
open PySem PySem.Spec PyProof.Rows L2
open C8 (Cal pe_c)
section
variable {P : Program} {w : World} {K : PySem.W.Frag} {mg : Str → Option Value} {base : Heap} {f : Addr} {fd : FuncData}
noncomputable def g_made_ratio : Sx := sCons (sSet 2 (fCall (aCons (nF 0) (aCons (nF 1) (aNil))) nGcd)) (sCons (sSet 2 (iF (oB (b2 (nQ 1) (kD (.int 0)) cGt)) (nF 2) (b2 (kD (.int 0)) (nQ 2) aSub))) (sRet (fTup (aCons (b2 (nQ 0) (nQ 2) aDiv) (aCons (b2 (nQ 1) (nQ 2) aDiv) (aNil))))))
noncomputable def h_made_ratio : Sx := xsCons (xsSet 2 (xfCall (xaCons (xnF 0) (xaCons (xnF 1) (aNil))) nGcd)) (xsCons (xsSet 2 (xiF (xoB (xb2 (xnQ 1) (kD (.int 0)) xGt)) (xnF 2) (xb2 (kD (.int 0)) (xnQ 2) xSub))) (xsRet (xfTup (xaCons (xb2 (xnQ 0) (xnQ 2) xDiv) (xaCons (xb2 (xnQ 1) (xnQ 2) xDiv) (aNil))))))
noncomputable def F_made_ratio : List PyData → Option PyData := xrunF 3 2 h_made_ratio
theorem hx_made_ratio : F_made_ratio = runF 3 2 g_made_ratio := by
  unfold F_made_ratio
  rw [xrunF_eq]
  congr 1
  unfold h_made_ratio g_made_ratio
  simp only [xDiv_eq, xGt_eq, xSub_eq, xaCons_eq, xb2_eq, xfCall_eq, xfTup_eq, xiF_eq, xnF_eq, xnQ_eq, xoB_eq, xsCons_eq, xsRet_eq, xsSet_eq]
theorem made_ratio_F (ds : List PyData) (d : PyData) (h : two kMade ds = some d) : F_made_ratio ds = some d := by
  obtain ⟨i, j, rfl, hk⟩ := two_some h
  unfold kMade at hk
  rw [frN_eq] at hk
  generalize hg : Nat.gcd i.natAbs j.natAbs = g at hk
  rw [bI_eq] at hk
  split at hk
  · rename_i ok
    obtain ⟨h1, h2, h3⟩ := okDen_b ok
    have e : nGcd [.int i, .int j] = some (.int (Int.ofNat g)) := by rw [nGcd_is h1, hg]
    have g0 : Int.ofNat g ≠ 0 := fun z => by
      have e : g = 0 := Int.ofNat.inj z
      omega
    rw [hx_made_ratio]
    unfold runF g_made_ratio
    show (sCons _ _ _).bind _ = _
    unfold sCons
    have e0 : sSet 2 (fCall (aCons (nF 0) (aCons (nF 1) aNil)) nGcd) (startN 3 [.int i, .int j]) = some (.nx [.fr (.int i), .fr (.int j), .fr (.int (Int.ofNat g))]) := by
      show (nGcd [.int i, .int j]).bind _ = _
      rw [e]
      rfl
    rw [e0]
    rw [bI_eq, posI_eq] at hk
    simp only [frI_eq] at hk
    by_cases hj : 0 < j
    · rw [decide_eq_true hj] at hk
      cases hk
      have ei : aDiv (.int i) (.int (Int.ofNat g)) = some (.int (i.fdiv (Int.ofNat g))) := aDiv_is g0 h3
      have ej : aDiv (.int j) (.int (Int.ofNat g)) = some (.int (j.fdiv (Int.ofNat g))) := aDiv_is g0 h3
      have e1 : sSet 2 (iF (oB (b2 (nQ 1) (kD (.int 0)) cGt)) (nF 2) (b2 (kD (.int 0)) (nQ 2) aSub)) [.fr (.int i), .fr (.int j), .fr (.int (Int.ofNat g))] = some (.nx [.fr (.int i), .fr (.int j), .fr (.int (Int.ofNat g))]) := by
        show ((if decide (0 < j) then nF 2 [.fr (.int i), .fr (.int j), .fr (.int (Int.ofNat g))] else _) : Option PyData).bind _ = _
        rw [decide_eq_true hj]
        rfl
      show ((sSet 2 _ [.fr (.int i), .fr (.int j), .fr (.int (Int.ofNat g))]).bind _).bind _ = _
      rw [e1]
      show (((aDiv (.int i) (.int (Int.ofNat g))).bind fun d => (((aDiv (.int j) (.int (Int.ofNat g))).bind fun d => _).bind fun ds => _)).bind _ |>.map Out.rt).bind _ = _
      rw [ei, ej]
      rfl
    · rw [decide_eq_false hj] at hk
      cases hk
      have gn : (0 : Int) - Int.ofNat g ≠ 0 := by
        intro z
        apply g0
        have : Int.ofNat g = (g : Int) := rfl
        omega
      have gl : ((0 : Int) - Int.ofNat g).natAbs < 1073741824 := by
        have : Int.ofNat g = (g : Int) := rfl
        omega
      have ei : aDiv (.int i) (.int (0 - Int.ofNat g)) = some (.int (i.fdiv (0 - Int.ofNat g))) := aDiv_is gn gl
      have ej : aDiv (.int j) (.int (0 - Int.ofNat g)) = some (.int (j.fdiv (0 - Int.ofNat g))) := aDiv_is gn gl
      have e1 : sSet 2 (iF (oB (b2 (nQ 1) (kD (.int 0)) cGt)) (nF 2) (b2 (kD (.int 0)) (nQ 2) aSub)) [.fr (.int i), .fr (.int j), .fr (.int (Int.ofNat g))] = some (.nx [.fr (.int i), .fr (.int j), .fr (.int (0 - Int.ofNat g))]) := by
        show ((if decide (0 < j) then _ else b2 (kD (.int 0)) (nQ 2) aSub [.fr (.int i), .fr (.int j), .fr (.int (Int.ofNat g))]) : Option PyData).bind _ = _
        rw [decide_eq_false hj]
        rfl
      show ((sSet 2 _ [.fr (.int i), .fr (.int j), .fr (.int (Int.ofNat g))]).bind _).bind _ = _
      rw [e1]
      show (((aDiv (.int i) (.int (0 - Int.ofNat g))).bind fun d => (((aDiv (.int j) (.int (0 - Int.ofNat g))).bind fun d => _).bind fun ds => _)).bind _ |>.map Out.rt).bind _ = _
      rw [ei, ej]
      rfl
  · cases hk
noncomputable def T_made_ratio : List PyData → Option PyData := xtab (two kMade) F_made_ratio
theorem T_made_ratio_eq : T_made_ratio = F_made_ratio := xtab_of made_ratio_F
theorem sc_made_ratio : FnScope ["first", "second", "common"] ["first", "second"] (defScope (top 37)) := ⟨rfl, rfl, rfl, by decide +kernel, rfl, by decide +kernel, by decide +kernel⟩
theorem cal_made_ratio (M : Mg mg) (FD : FunD K "made_ratio" "made_ratio" (defArgs (top 37)) (defBody (top 37)) (defScope (top 37)) [] [] f fd) (hm : mg "made_ratio" = some (.ref f)) (c_greatest_common : CF P w K mg base 1 "greatest_common" nGcd) : CF P w K mg base 2 "made_ratio" F_made_ratio := by
  rw [hx_made_ratio]
  exact fn_F (g := g_made_ratio) (k := 1) FD hm (FD.bindsN fun _ _ _ _ _ _ us hl => match us, hl with | [_, _], _ => rfl) sc_made_ratio fun cdv A outer s H E hr =>
    have nd := sc_made_ratio.nd
    have hu4 := room4 hr
    have hu5 := room5 hr
    l_cons (s_setF (i := 2) nd rfl (Or.inl rfl) (c_call bkF c_greatest_common hr (by decide) rfl (a_cons (c_nF (pv 0)) (a_cons (c_nF (pv 1)) (a_nil))))) (l_cons (s_setF (i := 2) nd rfl (Or.inl rfl) (c_if (b_gt (c_nQ (pv 1)) (qF (c_int))) (c_nF (pv 2)) (c_sub (qF (c_int)) (c_nQ (pv 2))))) (l_one (s_retF (c_tup (a_cons (c_div (c_nQ (pv 0)) (c_nQ (pv 2))) (a_cons (c_div (c_nQ (pv 1)) (c_nQ (pv 2))) (a_nil)))))))
noncomputable def g_square_free_in : Sx := sCons (sSet 1 (iF (oB (b2 (nQ 0) (kD (.int 0)) cGt)) (kD (.int 1)) (u1 (kD (.int 1)) aNeg))) (sCons (sFor (sqOf (fCall (aCons (u1 (nQ 0) gAbs) (aNil)) F_primes_in)) (bTup 2 (bsCons (bNm 2) (bsCons (bNm 3) (bsNil)))) (sSet 1 (iF (oB (b2 (b2 (nQ 3) (kD (.int 2)) aMod) (kD (.int 1)) cEq)) (b2 (nQ 1) (nQ 2) aMul) (nF 1)))) (sRet (nF 1)))
noncomputable def h_square_free_in : Sx := xsCons (xsSet 1 (xiF (xoB (xb2 (xnQ 0) (kD (.int 0)) xGt)) (kD (.int 1)) (xu1 (kD (.int 1)) aNeg))) (xsCons (xsFor (xsqOf (xfCall (xaCons (xu1 (xnQ 0) xAbs) (aNil)) T_primes_in)) (xbTup 2 (xbsCons (xbNm 2) (xbsCons (xbNm 3) (bsNil)))) (xsSet 1 (xiF (xoB (xb2 (xb2 (xnQ 3) (kD (.int 2)) xMod) (kD (.int 1)) xEq)) (xb2 (xnQ 1) (xnQ 2) xMul) (xnF 1)))) (xsRet (xnF 1)))
noncomputable def F_square_free_in : List PyData → Option PyData := xrunF 4 1 h_square_free_in
theorem hx_square_free_in : F_square_free_in = runF 4 1 g_square_free_in := by
  unfold F_square_free_in
  rw [xrunF_eq]
  congr 1
  unfold h_square_free_in g_square_free_in
  simp only [T_primes_in_eq, xAbs_eq, xEq_eq, xGt_eq, xMod_eq, xMul_eq, xaCons_eq, xb2_eq, xbNm_eq, xbTup_eq, xbsCons_eq, xfCall_eq, xiF_eq, xnF_eq, xnQ_eq, xoB_eq, xsCons_eq, xsFor_eq, xsRet_eq, xsSet_eq, xsqOf_eq, xu1_eq]
theorem sc_square_free_in : FnScope ["number", "found", "prime", "often"] ["number"] (defScope (top 42)) := ⟨rfl, rfl, rfl, by decide +kernel, rfl, by decide +kernel, by decide +kernel⟩
theorem cal_square_free_in (M : Mg mg) (FD : FunD K "square_free_in" "square_free_in" (defArgs (top 42)) (defBody (top 42)) (defScope (top 42)) [] [] f fd) (hm : mg "square_free_in" = some (.ref f)) (c_primes_in : CF P w K mg base 1 "primes_in" F_primes_in) : CF P w K mg base 2 "square_free_in" F_square_free_in := by
  rw [hx_square_free_in]
  exact fn_F (g := g_square_free_in) (k := 1) FD hm (FD.bindsN fun _ _ _ _ _ _ us hl => match us, hl with | [_], _ => rfl) sc_square_free_in fun cdv A outer s H E hr =>
    have nd := sc_square_free_in.nd
    have hu4 := room4 hr
    have hu5 := room5 hr
    l_cons (s_setF (i := 1) nd rfl (Or.inl rfl) (c_if (b_gt (c_nQ (pv 0)) (qF (c_int))) (c_int) (c_neg (qF (c_int))))) (l_cons (s_for PassesOwn.never rfl (i_sq (c_call bkF c_primes_in hr (by decide) rfl (a_cons (c_abs rfl M.b_abs (c_nQ (pv 0))) (a_nil)))) (g_tup rfl (gs_cons (g_nm (pg_name nd rfl (by first | exact Or.inl rfl | exact Or.inr rfl) (i := 2))) (gs_cons (g_nm (pg_name nd rfl (by first | exact Or.inl rfl | exact Or.inr rfl) (i := 3))) (gs_nil)))) (l_one (s_setF (i := 1) nd rfl (Or.inl rfl) (c_if (b_eq hu4 (qF (c_mod (c_nQ (pv 3)) (qF (c_int)))) (qF (c_int))) (c_mul (c_nQ (pv 1)) (c_nQ (pv 2))) (c_nF (pv 1)))))) (l_one (s_retF (c_nF (pv 1)))))
noncomputable def g_small_divisors : Sx := sRet (fLc (sqOf (fCall (aCons (nF 0) (aNil)) F_divisors_in)) (bNm 1) (oB (b2 (nQ 1) (kD (.int k_MOST_STEP_products)) cLe)) (nF 1) [1])
noncomputable def h_small_divisors : Sx := xsRet (xfLc (xsqOf (xfCall (xaCons (xnF 0) (aNil)) T_divisors_in)) (xbNm 1) (xoB (xb2 (xnQ 1) (kD (.int k_MOST_STEP_products)) xLe)) (xnF 1) [1])
noncomputable def F_small_divisors : List PyData → Option PyData := xrunF 2 1 h_small_divisors
theorem hx_small_divisors : F_small_divisors = runF 2 1 g_small_divisors := by
  unfold F_small_divisors
  rw [xrunF_eq]
  congr 1
  unfold h_small_divisors g_small_divisors
  simp only [T_divisors_in_eq, xLe_eq, xaCons_eq, xb2_eq, xbNm_eq, xfCall_eq, xfLc_eq, xnF_eq, xnQ_eq, xoB_eq, xsRet_eq, xsqOf_eq]
theorem sc_small_divisors : FnScope ["level", "step"] ["level"] (defScope (top 53)) := ⟨rfl, rfl, rfl, by decide +kernel, rfl, by decide +kernel, by decide +kernel⟩
theorem cal_small_divisors (M : Mg mg) (FD : FunD K "small_divisors" "small_divisors" (defArgs (top 53)) (defBody (top 53)) (defScope (top 53)) [] [] f fd) (hm : mg "small_divisors" = some (.ref f)) (c_divisors_in : CF P w K mg base 1 "divisors_in" F_divisors_in) : CF P w K mg base 2 "small_divisors" F_small_divisors := by
  rw [hx_small_divisors]
  exact fn_F (g := g_small_divisors) (k := 1) FD hm (FD.bindsN fun _ _ _ _ _ _ us hl => match us, hl with | [_], _ => rfl) sc_small_divisors fun cdv A outer s H E hr =>
    have nd := sc_small_divisors.nd
    have hu4 := room4 hr
    have hu5 := room5 hr
    l_one (s_retF (fO (c_lc (own := [("step", 1)]) rfl nd (i_sq (c_call bkF c_divisors_in hr (by decide) rfl (a_cons (c_nF (pv 0)) (a_nil)))) (blkOk_by (N := ["level", "step"]) (sc := defScope (top 53)) (by decide +kernel)) (fun _ _ _ _ _ => g_nm (pg_name nd rfl (by first | exact Or.inl rfl | exact Or.inr rfl) (i := 1))) (fun _ _ _ _ _ => t_one (b_le (c_nQ (pv 1)) (qF (c_gint rfl M.c_MOST_STEP_products)))) (fun _ _ _ _ _ => c_nF (pv 1)) (by decide))))
noncomputable def g_width_of : Sx := sRet (b2 (nQ 0) (b2 (nQ 1) (fCall (aCons (nF 1) (aCons (b2 (nQ 0) (nQ 1) aDiv) (aNil))) nGcd) aMul) aDiv)
noncomputable def h_width_of : Sx := xsRet (xb2 (xnQ 0) (xb2 (xnQ 1) (xfCall (xaCons (xnF 1) (xaCons (xb2 (xnQ 0) (xnQ 1) xDiv) (aNil))) nGcd) xMul) xDiv)
noncomputable def F_width_of : List PyData → Option PyData := xrunF 2 2 h_width_of
theorem hx_width_of : F_width_of = runF 2 2 g_width_of := by
  unfold F_width_of
  rw [xrunF_eq]
  congr 1
  unfold h_width_of g_width_of
  simp only [xDiv_eq, xMul_eq, xaCons_eq, xb2_eq, xfCall_eq, xnF_eq, xnQ_eq, xsRet_eq]
theorem sc_width_of : FnScope ["level", "end"] ["level", "end"] (defScope (top 59)) := ⟨rfl, rfl, rfl, by decide +kernel, rfl, by decide +kernel, by decide +kernel⟩
theorem cal_width_of (M : Mg mg) (FD : FunD K "width_of" "width_of" (defArgs (top 59)) (defBody (top 59)) (defScope (top 59)) [] [] f fd) (hm : mg "width_of" = some (.ref f)) (c_greatest_common : CF P w K mg base 1 "greatest_common" nGcd) : CF P w K mg base 2 "width_of" F_width_of := by
  rw [hx_width_of]
  exact fn_F (g := g_width_of) (k := 1) FD hm (FD.bindsN fun _ _ _ _ _ _ us hl => match us, hl with | [_, _], _ => rfl) sc_width_of fun cdv A outer s H E hr =>
    have nd := sc_width_of.nd
    have hu4 := room4 hr
    have hu5 := room5 hr
    l_one (s_retF (c_div (c_nQ (pv 0)) (qF (c_mul (c_nQ (pv 1)) (qF (c_call bkF c_greatest_common hr (by decide) rfl (a_cons (c_nF (pv 1)) (a_cons (c_div (c_nQ (pv 0)) (c_nQ (pv 1))) (a_nil)))))))))
noncomputable def g_factor_of : Sx := sRet (fCall (aCons (b2 (b2 (nQ 0) (nQ 0) aMul) (kD (.int 1)) aSub) (aCons (kD (.int 24)) (aNil))) nGcd)
noncomputable def h_factor_of : Sx := xsRet (xfCall (xaCons (xb2 (xb2 (xnQ 0) (xnQ 0) xMul) (kD (.int 1)) xSub) (xaCons (kD (.int 24)) (aNil))) nGcd)
noncomputable def F_factor_of : List PyData → Option PyData := xrunF 1 1 h_factor_of
theorem hx_factor_of : F_factor_of = runF 1 1 g_factor_of := by
  unfold F_factor_of
  rw [xrunF_eq]
  congr 1
  unfold h_factor_of g_factor_of
  simp only [xMul_eq, xSub_eq, xaCons_eq, xb2_eq, xfCall_eq, xnQ_eq, xsRet_eq]
theorem sc_factor_of : FnScope ["m"] ["m"] (defScope (top 66)) := ⟨rfl, rfl, rfl, by decide +kernel, rfl, by decide +kernel, by decide +kernel⟩
theorem cal_factor_of (M : Mg mg) (FD : FunD K "factor_of" "factor_of" (defArgs (top 66)) (defBody (top 66)) (defScope (top 66)) [] [] f fd) (hm : mg "factor_of" = some (.ref f)) (c_greatest_common : CF P w K mg base 1 "greatest_common" nGcd) : CF P w K mg base 2 "factor_of" F_factor_of := by
  rw [hx_factor_of]
  exact fn_F (g := g_factor_of) (k := 1) FD hm (FD.bindsN fun _ _ _ _ _ _ us hl => match us, hl with | [_], _ => rfl) sc_factor_of fun cdv A outer s H E hr =>
    have nd := sc_factor_of.nd
    have hu4 := room4 hr
    have hu5 := room5 hr
    l_one (s_retF (c_call bkF c_greatest_common hr (by decide) rfl (a_cons (c_sub (qF (c_mul (c_nQ (pv 0)) (c_nQ (pv 0)))) (qF (c_int))) (a_cons (c_int) (a_nil)))))
noncomputable def g_step_sums : Sx := sCons (sPar3 4 5 6 true true false (b2 (fLst (aCons (kD (.int 0)) (aNil))) (nQ 1) aRep) (b2 (fLst (aCons (kD (.int 0)) (aNil))) (nQ 1) aRep) (fCall (aCons (nF 0) (aNil)) F_powers_of)) (sCons (sFor (ksOf (nF 6)) (bNm 2) (sFor (r3Of (nQ 2) (nQ 1) (nQ 2)) (bNm 7) (sSt 5 (nQ 7) (b2 (b2 (nQ 5) (nQ 7) gIx) (b2 (nQ 6) (nQ 2) gIx) aAdd) putQ))) (sCons (sFor (r2Of (kD (.int 1)) (nQ 1)) (bNm 3) (sIf (oB (b2 (b2 (nQ 5) (nQ 3) gIx) (kD (.int 0)) cNe)) (sFor (r3Of (nQ 3) (nQ 1) (nQ 3)) (bNm 7) (sSt 4 (nQ 7) (b2 (b2 (nQ 4) (nQ 7) gIx) (b2 (nQ 3) (b2 (nQ 5) (nQ 3) gIx) aMul) aSub) putQ)) (sNil))) (sFz 4 (sRet (nF 4)))))
noncomputable def T_st_step_sums_0 : Sx := xForSt 7 5 (xr3 (xnQ 2) (xnQ 1) (xnQ 2)) (xb2 (xnQ 6) (xnQ 2) xIx) iAdd (xsFor (xr3 (xnQ 2) (xnQ 1) (xnQ 2)) (xbNm 7) (xsSt 5 (xnQ 7) (xb2 (xb2 (xnQ 5) (xnQ 7) xIx) (xb2 (xnQ 6) (xnQ 2) xIx) xAdd) xputQ))
theorem T_st_step_sums_0_eq : T_st_step_sums_0 = sFor (r3Of (nQ 2) (nQ 1) (nQ 2)) (bNm 7) (sSt 5 (nQ 7) (b2 (b2 (nQ 5) (nQ 7) gIx) (b2 (nQ 6) (nQ 2) gIx) aAdd) putQ) := by
  unfold T_st_step_sums_0
  simp only [xAdd_eq, xIx_eq, xb2_eq, xbNm_eq, xnQ_eq, xputQ_eq, xr3_eq, xsFor_eq, xsSt_eq]
  exact xForSt_eq (by decide) (iv_b2 (iv_nQ (by decide)) (iv_nQ (by decide))) (iv_b2 (iv_nQ (by decide)) (iv_nQ (by decide))) (fun a v => congrArg (fun z => some (PyData.int z)) (iAdd_eq a v).symm)
noncomputable def T_st_step_sums_1 : Sx := xForSt 7 4 (xr3 (xnQ 3) (xnQ 1) (xnQ 3)) (xb2 (xnQ 3) (xb2 (xnQ 5) (xnQ 3) xIx) xMul) iSub (xsFor (xr3 (xnQ 3) (xnQ 1) (xnQ 3)) (xbNm 7) (xsSt 4 (xnQ 7) (xb2 (xb2 (xnQ 4) (xnQ 7) xIx) (xb2 (xnQ 3) (xb2 (xnQ 5) (xnQ 3) xIx) xMul) xSub) xputQ))
theorem T_st_step_sums_1_eq : T_st_step_sums_1 = sFor (r3Of (nQ 3) (nQ 1) (nQ 3)) (bNm 7) (sSt 4 (nQ 7) (b2 (b2 (nQ 4) (nQ 7) gIx) (b2 (nQ 3) (b2 (nQ 5) (nQ 3) gIx) aMul) aSub) putQ) := by
  unfold T_st_step_sums_1
  simp only [xIx_eq, xMul_eq, xSub_eq, xb2_eq, xbNm_eq, xnQ_eq, xputQ_eq, xr3_eq, xsFor_eq, xsSt_eq]
  exact xForSt_eq (by decide) (iv_b2 (iv_nQ (by decide)) (iv_b2 (iv_nQ (by decide)) (iv_nQ (by decide)))) (iv_b2 (iv_nQ (by decide)) (iv_b2 (iv_nQ (by decide)) (iv_nQ (by decide)))) (fun a v => congrArg (fun z => some (PyData.int z)) (iSub_eq a v).symm)
noncomputable def h_step_sums : Sx := xsCons (xsPar3 4 5 6 true true false (xb2 (fLst (xaCons (kD (.int 0)) (aNil))) (xnQ 1) aRep) (xb2 (fLst (xaCons (kD (.int 0)) (aNil))) (xnQ 1) aRep) (xfCall (xaCons (xnF 0) (aNil)) F_powers_of)) (xsCons (xsFor (ksOf (xnF 6)) (xbNm 2) T_st_step_sums_0) (xsCons (xsFor (xr2 (kD (.int 1)) (xnQ 1)) (xbNm 3) (xsIf (xoB (xb2 (xb2 (xnQ 5) (xnQ 3) xIx) (kD (.int 0)) xNe)) T_st_step_sums_1 (sNil))) (xsFz 4 (xsRet (xnF 4)))))
noncomputable def F_step_sums : List PyData → Option PyData := xrunF 8 2 h_step_sums
theorem hx_step_sums : F_step_sums = runF 8 2 g_step_sums := by
  unfold F_step_sums
  rw [xrunF_eq]
  congr 1
  unfold h_step_sums g_step_sums
  simp only [T_st_step_sums_0_eq, T_st_step_sums_1_eq, xAdd_eq, xIx_eq, xMul_eq, xNe_eq, xSub_eq, xaCons_eq, xb2_eq, xbNm_eq, xfCall_eq, xnF_eq, xnQ_eq, xoB_eq, xputQ_eq, xr2_eq, xr3_eq, xsCons_eq, xsFor_eq, xsFz_eq, xsIf_eq, xsPar3_eq, xsRet_eq, xsSt_eq]
theorem sc_step_sums : FnScope ["product", "many", "step", "factor", "found", "factors", "powers", "place"] ["product", "many"] (defScope (top 81)) := ⟨rfl, rfl, rfl, by decide +kernel, rfl, by decide +kernel, by decide +kernel⟩
theorem cal_step_sums (M : Mg mg) (FD : FunD K "step_sums" "step_sums" (defArgs (top 81)) (defBody (top 81)) (defScope (top 81)) [] [] f fd) (hm : mg "step_sums" = some (.ref f)) (c_powers_of : CO P w K mg base 1 "powers_of" F_powers_of) : CF P w K mg base 2 "step_sums" F_step_sums := by
  rw [hx_step_sums]
  exact fn_F (g := g_step_sums) (k := 1) FD hm (FD.bindsN fun _ _ _ _ _ _ us hl => match us, hl with | [_, _], _ => rfl) sc_step_sums fun cdv A outer s H E hr =>
    have nd := sc_step_sums.nd
    have hu4 := room4 hr
    have hu5 := room5 hr
    l_cons (s_par3 (o1 := true) (o2 := true) (o3 := false) (i := 4) (j := 5) (l := 6) rfl nd rfl rfl rfl (by decide) (by decide) (by decide) rfl rfl rfl (c_rep (wO (c_lst (a_cons (c_int) (a_nil)))) (c_nQ (pv 1))) (c_rep (wO (c_lst (a_cons (c_int) (a_nil)))) (c_nQ (pv 1))) (fO (c_call bkO c_powers_of hr (by decide) rfl (a_cons (c_nF (pv 0)) (a_nil)))) rfl) (l_cons (s_forK lkF PassesOwn.never rfl (pv 6) (g_nm (pg_name nd rfl (by first | exact Or.inl rfl | exact Or.inr rfl) (i := 2))) (l_one (s_for PassesOwn.never rfl (i_rg3 rfl M.b_range (c_nQ (pv 2)) (c_nQ (pv 1)) (c_nQ (pv 2))) (g_nm (pg_name nd rfl (by first | exact Or.inl rfl | exact Or.inr rfl) (i := 7))) (l_one (s_lput (pv 5) (c_nQ (pv 7)) (c_add (qF (c_ix hu4 (c_nQ (pv 5)) (c_nQ (pv 7)) (fun _ _ => rfl))) (qF (c_ix hu4 (c_nQ (pv 6)) (c_nQ (pv 2)) (fun _ _ => rfl))))))))) (l_cons (s_for PassesOwn.never rfl (i_rg2 rfl M.b_range (qF (c_int)) (c_nQ (pv 1))) (g_nm (pg_name nd rfl (by first | exact Or.inl rfl | exact Or.inr rfl) (i := 3))) (l_one (s_if (b_ne hu4 (qF (c_ix hu4 (c_nQ (pv 5)) (c_nQ (pv 3)) (fun _ _ => rfl))) (qF (c_int))) (l_one (s_for PassesOwn.never rfl (i_rg3 rfl M.b_range (c_nQ (pv 3)) (c_nQ (pv 1)) (c_nQ (pv 3))) (g_nm (pg_name nd rfl (by first | exact Or.inl rfl | exact Or.inr rfl) (i := 7))) (l_one (s_lput (pv 4) (c_nQ (pv 7)) (c_sub (qF (c_ix hu4 (c_nQ (pv 4)) (c_nQ (pv 7)) (fun _ _ => rfl))) (qF (c_mul (c_nQ (pv 3)) (qF (c_ix hu4 (c_nQ (pv 5)) (c_nQ (pv 3)) (fun _ _ => rfl)))))))))) (l_nil)))) (l_one (s_fz 4 (s_retF (c_nF (pv 4)))))))
noncomputable def g_quotient_powers : Sx := sCons (sSetO 2 (fCall (aCons (nF 0) (aNil)) F_powers_of)) (sCons (sFor (sqOf (b2 (nQ 1) (kD (.int 1)) gIx)) (bTup 2 (bsCons (bNm 3) (bsCons (bNm 4) (bsNil)))) (sSt 2 (nQ 3) (b2 (b3 (nQ 2) (nQ 3) (kD (.int 0)) gGet) (nQ 4) aSub) putK')) (sFz 2 (sRet (nF 2))))
noncomputable def h_quotient_powers : Sx := xsCons (xsSetO 2 (xfCall (xaCons (xnF 0) (aNil)) F_powers_of)) (xsCons (xsFor (xsqOf (xb2 (xnQ 1) (kD (.int 1)) xIx)) (xbTup 2 (xbsCons (xbNm 3) (xbsCons (xbNm 4) (bsNil)))) (xsSt 2 (xnQ 3) (xb2 (xb3 (xnQ 2) (xnQ 3) (kD (.int 0)) gGet) (xnQ 4) xSub) putK')) (xsFz 2 (xsRet (xnF 2))))
noncomputable def F_quotient_powers : List PyData → Option PyData := xrunF 5 2 h_quotient_powers
theorem hx_quotient_powers : F_quotient_powers = runF 5 2 g_quotient_powers := by
  unfold F_quotient_powers
  rw [xrunF_eq]
  congr 1
  unfold h_quotient_powers g_quotient_powers
  simp only [xIx_eq, xSub_eq, xaCons_eq, xb2_eq, xb3_eq, xbNm_eq, xbTup_eq, xbsCons_eq, xfCall_eq, xnF_eq, xnQ_eq, xsCons_eq, xsFor_eq, xsFz_eq, xsRet_eq, xsSetO_eq, xsSt_eq, xsqOf_eq]
theorem sc_quotient_powers : FnScope ["one", "other", "found", "step", "power"] ["one", "other"] (defScope (top 91)) := ⟨rfl, rfl, rfl, by decide +kernel, rfl, by decide +kernel, by decide +kernel⟩
theorem cal_quotient_powers (M : Mg mg) (FD : FunD K "quotient_powers" "quotient_powers" (defArgs (top 91)) (defBody (top 91)) (defScope (top 91)) [] [] f fd) (hm : mg "quotient_powers" = some (.ref f)) (c_powers_of : CO P w K mg base 1 "powers_of" F_powers_of) : CF P w K mg base 2 "quotient_powers" F_quotient_powers := by
  rw [hx_quotient_powers]
  exact fn_F (g := g_quotient_powers) (k := 1) FD hm (FD.bindsN fun _ _ _ _ _ _ us hl => match us, hl with | [_, _], _ => rfl) sc_quotient_powers fun cdv A outer s H E hr =>
    have nd := sc_quotient_powers.nd
    have hu4 := room4 hr
    have hu5 := room5 hr
    l_cons (s_setO (i := 2) nd rfl (Or.inl rfl) (c_call bkO c_powers_of hr (by decide) rfl (a_cons (c_nF (pv 0)) (a_nil)))) (l_cons (s_for PassesOwn.never rfl (i_sq (c_ix hu4 (c_nQ (pv 1)) (qF (c_int)) (fun _ _ => rfl))) (g_tup rfl (gs_cons (g_nm (pg_name nd rfl (by first | exact Or.inl rfl | exact Or.inr rfl) (i := 3))) (gs_cons (g_nm (pg_name nd rfl (by first | exact Or.inl rfl | exact Or.inr rfl) (i := 4))) (gs_nil)))) (l_one (s_dput hu4 (pv 2) (c_nQ (pv 3)) (c_sub (qF (c_get hu4 (c_nQ (pv 2)) (c_nQ (pv 3)) (c_int) ⟨rfl, rfl, rfl, rfl⟩)) (c_nQ (pv 4))) rfl))) (l_one (s_fz 2 (s_retF (c_nF (pv 2))))))
noncomputable def g__law_ratio : Sx := sCons (sSet 2 (fCall (aCons (nF 0) (aCons (nF 1) (aNil))) nGcd)) (sRet (iF (oB (b2 (nQ 1) (kD (.int 0)) cGt)) (fTup (aCons (b2 (nQ 0) (nQ 2) aDiv) (aCons (b2 (nQ 1) (nQ 2) aDiv) (aNil)))) (fTup (aCons (b2 (kD (.int 0)) (b2 (nQ 0) (nQ 2) aDiv) aSub) (aCons (b2 (kD (.int 0)) (b2 (nQ 1) (nQ 2) aDiv) aSub) (aNil))))))
noncomputable def h__law_ratio : Sx := xsCons (xsSet 2 (xfCall (xaCons (xnF 0) (xaCons (xnF 1) (aNil))) nGcd)) (xsRet (xiF (xoB (xb2 (xnQ 1) (kD (.int 0)) xGt)) (xfTup (xaCons (xb2 (xnQ 0) (xnQ 2) xDiv) (xaCons (xb2 (xnQ 1) (xnQ 2) xDiv) (aNil)))) (xfTup (xaCons (xb2 (kD (.int 0)) (xb2 (xnQ 0) (xnQ 2) xDiv) xSub) (xaCons (xb2 (kD (.int 0)) (xb2 (xnQ 1) (xnQ 2) xDiv) xSub) (aNil))))))
noncomputable def F__law_ratio : List PyData → Option PyData := xrunF 3 2 h__law_ratio
theorem hx__law_ratio : F__law_ratio = runF 3 2 g__law_ratio := by
  unfold F__law_ratio
  rw [xrunF_eq]
  congr 1
  unfold h__law_ratio g__law_ratio
  simp only [xDiv_eq, xGt_eq, xSub_eq, xaCons_eq, xb2_eq, xfCall_eq, xfTup_eq, xiF_eq, xnF_eq, xnQ_eq, xoB_eq, xsCons_eq, xsRet_eq, xsSet_eq]
theorem law_ratio_F (ds : List PyData) (d : PyData) (h : two kLaw ds = some d) : F__law_ratio ds = some d := by
  obtain ⟨i, j, rfl, hk⟩ := two_some h
  unfold kLaw at hk
  rw [frN_eq] at hk
  generalize hg : Nat.gcd i.natAbs j.natAbs = g at hk
  rw [bI_eq] at hk
  split at hk
  · rename_i ok
    obtain ⟨h1, h2, h3⟩ := okDen_b ok
    have e : nGcd [.int i, .int j] = some (.int (Int.ofNat g)) := by rw [nGcd_is h1, hg]
    have g0 : Int.ofNat g ≠ 0 := fun z => by
      have e : g = 0 := Int.ofNat.inj z
      omega
    have ei : aDiv (.int i) (.int (Int.ofNat g)) = some (.int (i.fdiv (Int.ofNat g))) := aDiv_is g0 h3
    have ej : aDiv (.int j) (.int (Int.ofNat g)) = some (.int (j.fdiv (Int.ofNat g))) := aDiv_is g0 h3
    rw [hx__law_ratio]
    unfold runF g__law_ratio
    show (sCons _ _ _).bind _ = _
    unfold sCons
    have e0 : sSet 2 (fCall (aCons (nF 0) (aCons (nF 1) aNil)) nGcd) (startN 3 [.int i, .int j]) = some (.nx [.fr (.int i), .fr (.int j), .fr (.int (Int.ofNat g))]) := by
      show (nGcd [.int i, .int j]).bind _ = _
      rw [e]
      rfl
    rw [e0]
    rw [bI_eq, posI_eq] at hk
    simp only [frI_eq] at hk
    by_cases hj : 0 < j
    · rw [decide_eq_true hj] at hk
      cases hk
      show ((if decide (0 < j) then fTup (aCons (b2 (nQ 0) (nQ 2) aDiv) (aCons (b2 (nQ 1) (nQ 2) aDiv) aNil)) [.fr (.int i), .fr (.int j), .fr (.int (Int.ofNat g))] else _).map Out.rt).bind _ = _
      rw [decide_eq_true hj]
      show (((aDiv (.int i) (.int (Int.ofNat g))).bind fun d => (((aDiv (.int j) (.int (Int.ofNat g))).bind fun d => _).bind fun ds => _)).bind _ |>.map Out.rt).bind _ = _
      rw [ei, ej]
      rfl
    · rw [decide_eq_false hj] at hk
      cases hk
      show ((if decide (0 < j) then _ else fTup (aCons (b2 (kD (.int 0)) (b2 (nQ 0) (nQ 2) aDiv) aSub) (aCons (b2 (kD (.int 0)) (b2 (nQ 1) (nQ 2) aDiv) aSub) aNil)) [.fr (.int i), .fr (.int j), .fr (.int (Int.ofNat g))]).map Out.rt).bind _ = _
      rw [decide_eq_false hj]
      have e1 : b2 (kD (.int 0)) (b2 (nQ 0) (nQ 2) aDiv) aSub [.fr (.int i), .fr (.int j), .fr (.int (Int.ofNat g))] = some (.int (0 - i.fdiv (Int.ofNat g))) := by
        show ((aDiv (.int i) (.int (Int.ofNat g))).bind _) = _
        rw [ei]
        rfl
      have e2 : b2 (kD (.int 0)) (b2 (nQ 1) (nQ 2) aDiv) aSub [.fr (.int i), .fr (.int j), .fr (.int (Int.ofNat g))] = some (.int (0 - j.fdiv (Int.ofNat g))) := by
        show ((aDiv (.int j) (.int (Int.ofNat g))).bind _) = _
        rw [ej]
        rfl
      show ((fTup _ _).map Out.rt).bind _ = _
      unfold fTup aCons
      rw [e1, e2]
      rfl
  · cases hk
noncomputable def T__law_ratio : List PyData → Option PyData := xtab (two kLaw) F__law_ratio
theorem T__law_ratio_eq : T__law_ratio = F__law_ratio := xtab_of law_ratio_F
theorem sc__law_ratio : FnScope ["_law_number", "_law_under", "_law_near"] ["_law_number", "_law_under"] (defScope (top 116)) := ⟨rfl, rfl, rfl, by decide +kernel, rfl, by decide +kernel, by decide +kernel⟩
theorem cal__law_ratio (M : Mg mg) (FD : FunD K "_law_ratio" "_law_ratio" (defArgs (top 116)) (defBody (top 116)) (defScope (top 116)) [] [] f fd) (hm : mg "_law_ratio" = some (.ref f)) (c__law_gcd : CF P w K mg base 1 "_law_gcd" nGcd) : CF P w K mg base 2 "_law_ratio" F__law_ratio := by
  rw [hx__law_ratio]
  exact fn_F (g := g__law_ratio) (k := 1) FD hm (FD.bindsN fun _ _ _ _ _ _ us hl => match us, hl with | [_, _], _ => rfl) sc__law_ratio fun cdv A outer s H E hr =>
    have nd := sc__law_ratio.nd
    have hu4 := room4 hr
    have hu5 := room5 hr
    l_cons (s_setF (i := 2) nd rfl (Or.inl rfl) (c_call bkF c__law_gcd hr (by decide) rfl (a_cons (c_nF (pv 0)) (a_cons (c_nF (pv 1)) (a_nil))))) (l_one (s_retF (c_if (b_gt (c_nQ (pv 1)) (qF (c_int))) (c_tup (a_cons (c_div (c_nQ (pv 0)) (c_nQ (pv 2))) (a_cons (c_div (c_nQ (pv 1)) (c_nQ (pv 2))) (a_nil)))) (c_tup (a_cons (c_sub (qF (c_int)) (qF (c_div (c_nQ (pv 0)) (c_nQ (pv 2))))) (a_cons (c_sub (qF (c_int)) (qF (c_div (c_nQ (pv 1)) (c_nQ (pv 2))))) (a_nil)))))))
noncomputable def g__law_ends : Sx := sCons (sSetO 1 (fLst (aNil))) (sCons (sFor (sqOf (fCall (aCons (nF 0) (aNil)) F__law_divisors)) (bNm 2) (sCons (sSet 3 (fCall (aCons (nF 2) (aCons (b2 (nQ 0) (nQ 2) aDiv) (aNil))) nGcd)) (sCons (sSet 4 (iF (oB (b2 (nQ 3) (kD (.int 1)) cGt)) (u1 (fLc (r1Of (nQ 3)) (bNm 5) (oB (b2 (fCall (aCons (nF 5) (aCons (nF 3) (aNil))) nGcd) (kD (.int 1)) cEq)) (nF 5) [5]) gLen) (kD (.int 1)))) (sApp 1 (fTup (aCons (nF 2) (aCons (nF 4) (aCons (b2 (nQ 0) (b2 (nQ 2) (nQ 3) aMul) aDiv) (aNil))))))))) (sFz 1 (sRet (nF 1))))
noncomputable def h__law_ends : Sx := xsCons (xsSetO 1 (fLst (aNil))) (xsCons (xsFor (xsqOf (xfCall (xaCons (xnF 0) (aNil)) T__law_divisors)) (xbNm 2) (xsCons (xsSet 3 (xfCall (xaCons (xnF 2) (xaCons (xb2 (xnQ 0) (xnQ 2) xDiv) (aNil))) nGcd)) (xsCons (xsSet 4 (xiF (xoB (xb2 (xnQ 3) (kD (.int 1)) xGt)) (xu1 (xfLc (xr1 (xnQ 3)) (xbNm 5) (xoB (xb2 (xfCall (xaCons (xnF 5) (xaCons (xnF 3) (aNil))) nGcd) (kD (.int 1)) xEq)) (xnF 5) [5]) gLen) (kD (.int 1)))) (xsApp 1 (xfTup (xaCons (xnF 2) (xaCons (xnF 4) (xaCons (xb2 (xnQ 0) (xb2 (xnQ 2) (xnQ 3) xMul) xDiv) (aNil))))))))) (xsFz 1 (xsRet (xnF 1))))
noncomputable def F__law_ends : List PyData → Option PyData := xrunF 6 1 h__law_ends
theorem hx__law_ends : F__law_ends = runF 6 1 g__law_ends := by
  unfold F__law_ends
  rw [xrunF_eq]
  congr 1
  unfold h__law_ends g__law_ends
  simp only [T__law_divisors_eq, xDiv_eq, xEq_eq, xGt_eq, xMul_eq, xaCons_eq, xb2_eq, xbNm_eq, xfCall_eq, xfLc_eq, xfTup_eq, xiF_eq, xnF_eq, xnQ_eq, xoB_eq, xr1_eq, xsApp_eq, xsCons_eq, xsFor_eq, xsFz_eq, xsRet_eq, xsSet_eq, xsSetO_eq, xsqOf_eq, xu1_eq]
noncomputable def tab__law_ends : List (List Int × PyData) := [([Int.ofNat 1], .list [.tuple [.int (Int.ofNat 1), .int (Int.ofNat 1), .int (Int.ofNat 1)]]), ([Int.ofNat 2], .list [.tuple [.int (Int.ofNat 1), .int (Int.ofNat 1), .int (Int.ofNat 2)], .tuple [.int (Int.ofNat 2), .int (Int.ofNat 1), .int (Int.ofNat 1)]]), ([Int.ofNat 3], .list [.tuple [.int (Int.ofNat 1), .int (Int.ofNat 1), .int (Int.ofNat 3)], .tuple [.int (Int.ofNat 3), .int (Int.ofNat 1), .int (Int.ofNat 1)]]), ([Int.ofNat 4], .list [.tuple [.int (Int.ofNat 1), .int (Int.ofNat 1), .int (Int.ofNat 4)], .tuple [.int (Int.ofNat 2), .int (Int.ofNat 1), .int (Int.ofNat 1)], .tuple [.int (Int.ofNat 4), .int (Int.ofNat 1), .int (Int.ofNat 1)]]), ([Int.ofNat 5], .list [.tuple [.int (Int.ofNat 1), .int (Int.ofNat 1), .int (Int.ofNat 5)], .tuple [.int (Int.ofNat 5), .int (Int.ofNat 1), .int (Int.ofNat 1)]]), ([Int.ofNat 6], .list [.tuple [.int (Int.ofNat 1), .int (Int.ofNat 1), .int (Int.ofNat 6)], .tuple [.int (Int.ofNat 2), .int (Int.ofNat 1), .int (Int.ofNat 3)], .tuple [.int (Int.ofNat 3), .int (Int.ofNat 1), .int (Int.ofNat 2)], .tuple [.int (Int.ofNat 6), .int (Int.ofNat 1), .int (Int.ofNat 1)]]), ([Int.ofNat 7], .list [.tuple [.int (Int.ofNat 1), .int (Int.ofNat 1), .int (Int.ofNat 7)], .tuple [.int (Int.ofNat 7), .int (Int.ofNat 1), .int (Int.ofNat 1)]]), ([Int.ofNat 8], .list [.tuple [.int (Int.ofNat 1), .int (Int.ofNat 1), .int (Int.ofNat 8)], .tuple [.int (Int.ofNat 2), .int (Int.ofNat 1), .int (Int.ofNat 2)], .tuple [.int (Int.ofNat 4), .int (Int.ofNat 1), .int (Int.ofNat 1)], .tuple [.int (Int.ofNat 8), .int (Int.ofNat 1), .int (Int.ofNat 1)]]), ([Int.ofNat 10], .list [.tuple [.int (Int.ofNat 1), .int (Int.ofNat 1), .int (Int.ofNat 10)], .tuple [.int (Int.ofNat 2), .int (Int.ofNat 1), .int (Int.ofNat 5)], .tuple [.int (Int.ofNat 5), .int (Int.ofNat 1), .int (Int.ofNat 2)], .tuple [.int (Int.ofNat 10), .int (Int.ofNat 1), .int (Int.ofNat 1)]]), ([Int.ofNat 12], .list [.tuple [.int (Int.ofNat 1), .int (Int.ofNat 1), .int (Int.ofNat 12)], .tuple [.int (Int.ofNat 2), .int (Int.ofNat 1), .int (Int.ofNat 3)], .tuple [.int (Int.ofNat 3), .int (Int.ofNat 1), .int (Int.ofNat 4)], .tuple [.int (Int.ofNat 4), .int (Int.ofNat 1), .int (Int.ofNat 3)], .tuple [.int (Int.ofNat 6), .int (Int.ofNat 1), .int (Int.ofNat 1)], .tuple [.int (Int.ofNat 12), .int (Int.ofNat 1), .int (Int.ofNat 1)]]), ([Int.ofNat 15], .list [.tuple [.int (Int.ofNat 1), .int (Int.ofNat 1), .int (Int.ofNat 15)], .tuple [.int (Int.ofNat 3), .int (Int.ofNat 1), .int (Int.ofNat 5)], .tuple [.int (Int.ofNat 5), .int (Int.ofNat 1), .int (Int.ofNat 3)], .tuple [.int (Int.ofNat 15), .int (Int.ofNat 1), .int (Int.ofNat 1)]]), ([Int.ofNat 24], .list [.tuple [.int (Int.ofNat 1), .int (Int.ofNat 1), .int (Int.ofNat 24)], .tuple [.int (Int.ofNat 2), .int (Int.ofNat 1), .int (Int.ofNat 6)], .tuple [.int (Int.ofNat 3), .int (Int.ofNat 1), .int (Int.ofNat 8)], .tuple [.int (Int.ofNat 4), .int (Int.ofNat 1), .int (Int.ofNat 3)], .tuple [.int (Int.ofNat 6), .int (Int.ofNat 1), .int (Int.ofNat 2)], .tuple [.int (Int.ofNat 8), .int (Int.ofNat 1), .int (Int.ofNat 3)], .tuple [.int (Int.ofNat 12), .int (Int.ofNat 1), .int (Int.ofNat 1)], .tuple [.int (Int.ofNat 24), .int (Int.ofNat 1), .int (Int.ofNat 1)]])]
noncomputable def T__law_ends : List PyData → Option PyData := xtab (look tab__law_ends) F__law_ends
theorem T__law_ends_eq : T__law_ends = F__law_ends := tab_eq (by kernel_rfl)
theorem sc__law_ends : FnScope ["_law_level", "_law_found", "_law_end", "_law_near", "_law_many", "_law_one"] ["_law_level"] (defScope (top 120)) := ⟨rfl, rfl, rfl, by decide +kernel, rfl, by decide +kernel, by decide +kernel⟩
theorem cal__law_ends (M : Mg mg) (FD : FunD K "_law_ends" "_law_ends" (defArgs (top 120)) (defBody (top 120)) (defScope (top 120)) [] [] f fd) (hm : mg "_law_ends" = some (.ref f)) (c__law_divisors : CF P w K mg base 1 "_law_divisors" F__law_divisors) (c__law_gcd : CF P w K mg base 1 "_law_gcd" nGcd) : CF P w K mg base 2 "_law_ends" F__law_ends := by
  rw [hx__law_ends]
  exact fn_F (g := g__law_ends) (k := 1) FD hm (FD.bindsN fun _ _ _ _ _ _ us hl => match us, hl with | [_], _ => rfl) sc__law_ends fun cdv A outer s H E hr =>
    have nd := sc__law_ends.nd
    have hu4 := room4 hr
    have hu5 := room5 hr
    l_cons (s_setO (i := 1) nd rfl (Or.inl rfl) (c_lst (a_nil))) (l_cons (s_for PassesOwn.never rfl (i_sq (c_call bkF c__law_divisors hr (by decide) rfl (a_cons (c_nF (pv 0)) (a_nil)))) (g_nm (pg_name nd rfl (by first | exact Or.inl rfl | exact Or.inr rfl) (i := 2))) (l_cons (s_setF (i := 3) nd rfl (Or.inr rfl) (c_call bkF c__law_gcd hr (by decide) rfl (a_cons (c_nF (pv 2)) (a_cons (c_div (c_nQ (pv 0)) (c_nQ (pv 2))) (a_nil))))) (l_cons (s_setF (i := 4) nd rfl (Or.inl rfl) (c_if (b_gt (c_nQ (pv 3)) (qF (c_int))) (c_len rfl M.b_len (qO (c_lc (own := [("_law_one", 5)]) rfl nd (i_rg1 rfl M.b_range (c_nQ (pv 3))) (blkOk_by (N := ["_law_level", "_law_found", "_law_end", "_law_near", "_law_many", "_law_one"]) (sc := defScope (top 120)) (by decide +kernel)) (fun _ _ _ _ _ => g_nm (pg_name nd rfl (by first | exact Or.inl rfl | exact Or.inr rfl) (i := 5))) (fun _ _ _ _ _ => t_one (b_eq hu4 (qF (c_call bkF c__law_gcd hr (by decide) rfl (a_cons (c_nF (pv 5)) (a_cons (c_nF (pv 3)) (a_nil))))) (qF (c_int)))) (fun _ _ _ _ _ => c_nF (pv 5)) (by decide)))) (c_int))) (l_one (s_app (pe_bm PySem.F.plainAttrs_list PySem.F.slot_list_append PySem.F.type_list_append mt_append (pv 1) (pa_cons (c_tup (a_cons (c_nF (pv 2)) (a_cons (c_nF (pv 4)) (a_cons (c_div (c_nQ (pv 0)) (qF (c_mul (c_nQ (pv 2)) (c_nQ (pv 3))))) (a_nil))))) pa_nil))))))) (l_one (s_fz 1 (s_retF (c_nF (pv 1))))))
noncomputable def g__law_fits : Sx := sCons (sIf (oB (b2 (fLc (ksOf (nF 0)) (bNm 3) (bAnd (oB (b2 (b2 (nQ 0) (nQ 3) gIx) (kD (.int 0)) cNe)) (oB (b2 (b2 (u1 (nQ 1) gInt) (nQ 3) aMod) (kD (.int 0)) cNe))) (nF 3) [3]) (fLst (aNil)) cNeE)) (sRet (kD (.bool false))) (sNil)) (sCons (sSet 2 (fLst (aCons (b2 (kD (.int 12)) (fCall (aCons (nF 0) (aNil)) F__law_power_sum) aMul) (aCons (fCall (aCons (nF 0) (aNil)) F__law_step_sum) (aCons (fCall (aCons (nF 0) (aCons (nF 1) (aNil))) F__law_turned_sum) (aNil)))))) (sRet (b2 (fLc (sqOf (nF 2)) (bNm 4) (oB (b2 (b2 (u1 (nQ 4) gInt) (kD (.int 24)) aMod) (kD (.int 0)) cNe)) (nF 4) [4]) (fLst (aNil)) cEqE)))
noncomputable def h__law_fits : Sx := xsCons (xsIf (xoB (xb2 (xfLc (ksOf (xnF 0)) (xbNm 3) (xbAnd (xoB (xb2 (xb2 (xnQ 0) (xnQ 3) xIx) (kD (.int 0)) xNe)) (xoB (xb2 (xb2 (xu1 (xnQ 1) xInt) (xnQ 3) xMod) (kD (.int 0)) xNe))) (xnF 3) [3]) (fLst (aNil)) cNeE)) (xsRet (kD (.bool false))) (sNil)) (xsCons (xsSet 2 (fLst (xaCons (xb2 (kD (.int 12)) (xfCall (xaCons (xnF 0) (aNil)) F__law_power_sum) xMul) (xaCons (xfCall (xaCons (xnF 0) (aNil)) F__law_step_sum) (xaCons (xfCall (xaCons (xnF 0) (xaCons (xnF 1) (aNil))) F__law_turned_sum) (aNil)))))) (xsRet (xb2 (xfLc (xsqOf (xnF 2)) (xbNm 4) (xoB (xb2 (xb2 (xu1 (xnQ 4) xInt) (kD (.int 24)) xMod) (kD (.int 0)) xNe)) (xnF 4) [4]) (fLst (aNil)) cEqE)))
noncomputable def F__law_fits : List PyData → Option PyData := xrunF 5 2 h__law_fits
theorem hx__law_fits : F__law_fits = runF 5 2 g__law_fits := by
  unfold F__law_fits
  rw [xrunF_eq]
  congr 1
  unfold h__law_fits g__law_fits
  simp only [xInt_eq, xIx_eq, xMod_eq, xMul_eq, xNe_eq, xaCons_eq, xb2_eq, xbAnd_eq, xbNm_eq, xfCall_eq, xfLc_eq, xnF_eq, xnQ_eq, xoB_eq, xsCons_eq, xsIf_eq, xsRet_eq, xsSet_eq, xsqOf_eq, xu1_eq]
theorem sc__law_fits : FnScope ["_law_powers", "_law_level", "_law_sums", "_law_step", "_law_one"] ["_law_powers", "_law_level"] (defScope (top 125)) := ⟨rfl, rfl, rfl, by decide +kernel, rfl, by decide +kernel, by decide +kernel⟩
theorem cal__law_fits (M : Mg mg) (FD : FunD K "_law_fits" "_law_fits" (defArgs (top 125)) (defBody (top 125)) (defScope (top 125)) [] [] f fd) (hm : mg "_law_fits" = some (.ref f)) (c__law_power_sum : CF P w K mg base 1 "_law_power_sum" F__law_power_sum) (c__law_step_sum : CF P w K mg base 1 "_law_step_sum" F__law_step_sum) (c__law_turned_sum : CF P w K mg base 1 "_law_turned_sum" F__law_turned_sum) : CF P w K mg base 2 "_law_fits" F__law_fits := by
  rw [hx__law_fits]
  exact fn_F (g := g__law_fits) (k := 1) FD hm (FD.bindsN fun _ _ _ _ _ _ us hl => match us, hl with | [_, _], _ => rfl) sc__law_fits fun cdv A outer s H E hr =>
    have nd := sc__law_fits.nd
    have hu4 := room4 hr
    have hu5 := room5 hr
    l_cons (s_if (b_neE hu4 (qO (c_lcK (own := [("_law_step", 3)]) rfl nd (pv 0) (blkOk_by (N := ["_law_powers", "_law_level", "_law_sums", "_law_step", "_law_one"]) (sc := defScope (top 125)) (by decide +kernel)) (fun _ _ _ _ _ => g_nm (pg_name nd rfl (by first | exact Or.inl rfl | exact Or.inr rfl) (i := 3))) (fun _ _ _ _ _ => t_one (b_w (w_and (b_ne hu4 (qF (c_ix hu4 (c_nQ (pv 0)) (c_nQ (pv 3)) (fun _ _ => rfl))) (qF (c_int))) (w_and1 (b_ne hu4 (qF (c_mod (qF (c_int1 rfl M.b_int (c_nQ (pv 1)))) (c_nQ (pv 3)))) (qF (c_int))))))) (fun _ _ _ _ _ => c_nF (pv 3)) (by decide))) (qO (c_lst (a_nil)))) (l_one (s_retF (c_bool))) (l_nil)) (l_cons (s_setF (i := 2) nd rfl (Or.inl rfl) (fO (c_lst (a_cons (c_mul (qF (c_int)) (qF (c_call bkF c__law_power_sum hr (by decide) rfl (a_cons (c_nF (pv 0)) (a_nil))))) (a_cons (c_call bkF c__law_step_sum hr (by decide) rfl (a_cons (c_nF (pv 0)) (a_nil))) (a_cons (c_call bkF c__law_turned_sum hr (by decide) rfl (a_cons (c_nF (pv 0)) (a_cons (c_nF (pv 1)) (a_nil)))) (a_nil))))))) (l_one (s_retF (c_eqE hu4 (qO (c_lc (own := [("_law_one", 4)]) rfl nd (i_sq (c_nF (pv 2))) (blkOk_by (N := ["_law_powers", "_law_level", "_law_sums", "_law_step", "_law_one"]) (sc := defScope (top 125)) (by decide +kernel)) (fun _ _ _ _ _ => g_nm (pg_name nd rfl (by first | exact Or.inl rfl | exact Or.inr rfl) (i := 4))) (fun _ _ _ _ _ => t_one (b_ne hu4 (qF (c_mod (qF (c_int1 rfl M.b_int (c_nQ (pv 4)))) (qF (c_int)))) (qF (c_int)))) (fun _ _ _ _ _ => c_nF (pv 4)) (by decide))) (qO (c_lst (a_nil)))))))
noncomputable def g__law_kind : Sx := sCons (sPar2 4 5 false true (b2 (fCall (aCons (nF 0) (aNil)) F__law_power_sum) (kD (.int 2)) aDiv) (kD (.dict []))) (sCons (sFor (ksOf (nF 0)) (bNm 1) (sCons (sPar2 6 3 false false (nF 1) (kD (.int 2))) (whileF (oB (b2 (nQ 6) (kD (.int 1)) cGt)) (sCons (whileF (oB (b2 (b2 (u1 (nQ 6) gInt) (nQ 3) aMod) (kD (.int 0)) cEq)) (sAsgK 5 6 (nQ 3) (b2 (b3 (nQ 5) (nQ 3) (kD (.int 0)) gGet) (b2 (nQ 0) (nQ 1) gIx) aAdd) (b2 (nQ 6) (nQ 3) aDiv)) 3000) (sSet 3 (b2 (nQ 3) (kD (.int 1)) aAdd))) 3000))) (sCons (sSet 2 (iF (oB (b2 (b2 (u1 (nQ 4) gInt) (kD (.int 2)) aMod) (kD (.int 0)) cEq)) (kD (.int 1)) (u1 (kD (.int 1)) aNeg))) (sCons (sFz 5 (sFor (ksOf (nF 5)) (bNm 3) (sSet 2 (iF (oB (b2 (b2 (u1 (b2 (nQ 5) (nQ 3) gIx) gInt) (kD (.int 2)) aMod) (kD (.int 1)) cEq)) (b2 (nQ 2) (nQ 3) aMul) (nF 2))))) (sRet (fTup (aCons (nF 4) (aCons (nF 2) (aNil))))))))
noncomputable def h__law_kind : Sx := xsCons (xsPar2 4 5 false true (xb2 (xfCall (xaCons (xnF 0) (aNil)) F__law_power_sum) (kD (.int 2)) xDiv) (kD (.dict []))) (xsCons (xsFor (ksOf (xnF 0)) (xbNm 1) (xsCons (xsPar2 6 3 false false (xnF 1) (kD (.int 2))) (xwhl (xoB (xb2 (xnQ 6) (kD (.int 1)) xGt)) (xsCons (xwhl (xoB (xb2 (xb2 (xu1 (xnQ 6) xInt) (xnQ 3) xMod) (kD (.int 0)) xEq)) (sAsgK 5 6 (xnQ 3) (xb2 (xb3 (xnQ 5) (xnQ 3) (kD (.int 0)) gGet) (xb2 (xnQ 0) (xnQ 1) xIx) xAdd) (xb2 (xnQ 6) (xnQ 3) xDiv)) 3000) (xsSet 3 (xb2 (xnQ 3) (kD (.int 1)) xAdd))) 3000))) (xsCons (xsSet 2 (xiF (xoB (xb2 (xb2 (xu1 (xnQ 4) xInt) (kD (.int 2)) xMod) (kD (.int 0)) xEq)) (kD (.int 1)) (xu1 (kD (.int 1)) aNeg))) (xsCons (xsFz 5 (xsFor (ksOf (xnF 5)) (xbNm 3) (xsSet 2 (xiF (xoB (xb2 (xb2 (xu1 (xb2 (xnQ 5) (xnQ 3) xIx) xInt) (kD (.int 2)) xMod) (kD (.int 1)) xEq)) (xb2 (xnQ 2) (xnQ 3) xMul) (xnF 2))))) (xsRet (xfTup (xaCons (xnF 4) (xaCons (xnF 2) (aNil))))))))
noncomputable def F__law_kind : List PyData → Option PyData := xrunF 7 1 h__law_kind
theorem hx__law_kind : F__law_kind = runF 7 1 g__law_kind := by
  unfold F__law_kind
  rw [xrunF_eq]
  congr 1
  unfold h__law_kind g__law_kind
  simp only [xAdd_eq, xDiv_eq, xEq_eq, xGt_eq, xInt_eq, xIx_eq, xMod_eq, xMul_eq, xaCons_eq, xb2_eq, xb3_eq, xbNm_eq, xfCall_eq, xfTup_eq, xiF_eq, xnF_eq, xnQ_eq, xoB_eq, xsCons_eq, xsFor_eq, xsFz_eq, xsPar2_eq, xsRet_eq, xsSet_eq, xu1_eq, xwhl_eq]
theorem sc__law_kind : FnScope ["_law_powers", "_law_step", "_law_sign", "_law_prime", "_law_weight", "_law_odd", "_law_left"] ["_law_powers"] (defScope (top 126)) := ⟨rfl, rfl, rfl, by decide +kernel, rfl, by decide +kernel, by decide +kernel⟩
noncomputable def g__law_serves : Sx := sCons (sPar2 7 8 false false (fCall (aCons (b2 (b2 (nQ 1) (nQ 1) aMul) (kD (.int 1)) aSub) (aCons (kD (.int 24)) (aNil))) nGcd) (fLc (ksOf (nF 0)) (bNm 9) (oB (b2 (b2 (nQ 0) (nQ 9) gIx) (kD (.int 0)) cNe)) (nF 9) [9])) (sCons (sFor (r2Of (kD (.int 2)) (b2 (nQ 1) (kD (.int 1)) aAdd)) (bNm 4) (sIf (bAnd (oB (b2 (b2 (u1 (nQ 1) gInt) (nQ 4) aMod) (kD (.int 0)) cEq)) (bAnd (oB (b2 (b2 (u1 (nQ 3) gInt) (nQ 4) aMod) (kD (.int 0)) cNe)) (oB (b2 (fCall (aCons (nF 4) (aNil)) F__law_divisors) (fLst (aCons (kD (.int 1)) (aCons (nF 4) (aNil)))) cEq)))) (sRet (kD (.bool false))) (sNil))) (sCons (sIf (oB (b2 (fLc (sqOf (nF 8)) (bNm 9) (oB (b2 (b2 (u1 (b2 (nQ 1) (nQ 3) aMul) gInt) (nQ 9) aMod) (kD (.int 0)) cNe)) (nF 9) [9]) (fLst (aNil)) cNeE)) (sRet (kD (.bool false))) (sNil)) (sCons (sSet 5 (u1 (fLc (sqOf (nF 8)) (bNm 9) (bYes) (b2 (b2 (nQ 0) (nQ 9) gIx) (b2 (b2 (nQ 1) (nQ 3) aMul) (nQ 9) aDiv) aMul) [9]) gSum)) (sCons (sIf (bOr (oB (b2 (b2 (u1 (b2 (b2 (nQ 7) (nQ 3) aMul) (nQ 5) aMul) gInt) (kD (.int 24)) aMod) (kD (.int 0)) cNe)) (oB (b2 (b2 (u1 (b2 (b2 (nQ 7) (nQ 3) aMul) (fCall (aCons (nF 0) (aNil)) F__law_power_sum) aMul) gInt) (kD (.int 8)) aMod) (kD (.int 0)) cNe))) (sRet (kD (.bool false))) (sNil)) (sCons (sSet 6 (b2 (kD (.int 24)) (nQ 1) aMul)) (sCons (sIf (oB (b2 (b2 (u1 (nQ 3) gInt) (b2 (nQ 6) (fCall (aCons (b2 (nQ 7) (b2 (b2 (kD (.int 24)) (nQ 2) aMul) (fCall (aCons (nF 0) (aNil)) F__law_step_sum) aAdd) aMul) (aCons (nF 6) (aNil))) nGcd) aDiv) aMod) (kD (.int 0)) cNe)) (sRet (kD (.bool false))) (sNil)) (sRet (vOr (b2 (b2 (u1 (nQ 1) gInt) (kD (.int 2)) aMod) (kD (.int 1)) cEq) (fCall (aCons (nF 0) (aCons (nF 8) (aCons (b2 (nQ 7) (nQ 3) aMul) (aCons (nF 3) (aNil))))) F__law_is_even_right)))))))))
noncomputable def h__law_serves : Sx := xsCons (xsPar2 7 8 false false (xfCall (xaCons (xb2 (xb2 (xnQ 1) (xnQ 1) xMul) (kD (.int 1)) xSub) (xaCons (kD (.int 24)) (aNil))) nGcd) (xfLc (ksOf (xnF 0)) (xbNm 9) (xoB (xb2 (xb2 (xnQ 0) (xnQ 9) xIx) (kD (.int 0)) xNe)) (xnF 9) [9])) (xsCons (xsFor (xr2 (kD (.int 2)) (xb2 (xnQ 1) (kD (.int 1)) xAdd)) (xbNm 4) (xsIf (xbAnd (xoB (xb2 (xb2 (xu1 (xnQ 1) xInt) (xnQ 4) xMod) (kD (.int 0)) xEq)) (xbAnd (xoB (xb2 (xb2 (xu1 (xnQ 3) xInt) (xnQ 4) xMod) (kD (.int 0)) xNe)) (xoB (xb2 (xfCall (xaCons (xnF 4) (aNil)) T__law_divisors) (fLst (xaCons (kD (.int 1)) (xaCons (xnF 4) (aNil)))) xEq)))) (xsRet (kD (.bool false))) (sNil))) (xsCons (xsIf (xoB (xb2 (xfLc (xsqOf (xnF 8)) (xbNm 9) (xoB (xb2 (xb2 (xu1 (xb2 (xnQ 1) (xnQ 3) xMul) xInt) (xnQ 9) xMod) (kD (.int 0)) xNe)) (xnF 9) [9]) (fLst (aNil)) cNeE)) (xsRet (kD (.bool false))) (sNil)) (xsCons (xsSet 5 (xu1 (xfLc (xsqOf (xnF 8)) (xbNm 9) (bYes) (xb2 (xb2 (xnQ 0) (xnQ 9) xIx) (xb2 (xb2 (xnQ 1) (xnQ 3) xMul) (xnQ 9) xDiv) xMul) [9]) gSum)) (xsCons (xsIf (xbOr (xoB (xb2 (xb2 (xu1 (xb2 (xb2 (xnQ 7) (xnQ 3) xMul) (xnQ 5) xMul) xInt) (kD (.int 24)) xMod) (kD (.int 0)) xNe)) (xoB (xb2 (xb2 (xu1 (xb2 (xb2 (xnQ 7) (xnQ 3) xMul) (xfCall (xaCons (xnF 0) (aNil)) F__law_power_sum) xMul) xInt) (kD (.int 8)) xMod) (kD (.int 0)) xNe))) (xsRet (kD (.bool false))) (sNil)) (xsCons (xsSet 6 (xb2 (kD (.int 24)) (xnQ 1) xMul)) (xsCons (xsIf (xoB (xb2 (xb2 (xu1 (xnQ 3) xInt) (xb2 (xnQ 6) (xfCall (xaCons (xb2 (xnQ 7) (xb2 (xb2 (kD (.int 24)) (xnQ 2) xMul) (xfCall (xaCons (xnF 0) (aNil)) F__law_step_sum) xAdd) xMul) (xaCons (xnF 6) (aNil))) nGcd) xDiv) xMod) (kD (.int 0)) xNe)) (xsRet (kD (.bool false))) (sNil)) (xsRet (vOr (xb2 (xb2 (xu1 (xnQ 1) xInt) (kD (.int 2)) xMod) (kD (.int 1)) xEq) (xfCall (xaCons (xnF 0) (xaCons (xnF 8) (xaCons (xb2 (xnQ 7) (xnQ 3) xMul) (xaCons (xnF 3) (aNil))))) F__law_is_even_right)))))))))
noncomputable def F__law_serves : List PyData → Option PyData := xrunF 10 4 h__law_serves
theorem hx__law_serves : F__law_serves = runF 10 4 g__law_serves := by
  unfold F__law_serves
  rw [xrunF_eq]
  congr 1
  unfold h__law_serves g__law_serves
  simp only [T__law_divisors_eq, xAdd_eq, xDiv_eq, xEq_eq, xInt_eq, xIx_eq, xMod_eq, xMul_eq, xNe_eq, xSub_eq, xaCons_eq, xb2_eq, xbAnd_eq, xbNm_eq, xbOr_eq, xfCall_eq, xfLc_eq, xnF_eq, xnQ_eq, xoB_eq, xr2_eq, xsCons_eq, xsFor_eq, xsIf_eq, xsPar2_eq, xsRet_eq, xsSet_eq, xsqOf_eq, xu1_eq]
theorem sc__law_serves : FnScope ["_law_powers", "_law_m", "_law_t", "_law_level", "_law_prime", "_law_total", "_law_wide", "_law_k", "_law_some", "_law_step"] ["_law_powers", "_law_m", "_law_t", "_law_level"] (defScope (top 131)) := ⟨rfl, rfl, rfl, by decide +kernel, rfl, by decide +kernel, by decide +kernel⟩
theorem cal__law_serves (M : Mg mg) (FD : FunD K "_law_serves" "_law_serves" (defArgs (top 131)) (defBody (top 131)) (defScope (top 131)) [] [] f fd) (hm : mg "_law_serves" = some (.ref f)) (c__law_divisors : CF P w K mg base 1 "_law_divisors" F__law_divisors) (c__law_gcd : CF P w K mg base 1 "_law_gcd" nGcd) (c__law_is_even_right : CF P w K mg base 1 "_law_is_even_right" F__law_is_even_right) (c__law_power_sum : CF P w K mg base 1 "_law_power_sum" F__law_power_sum) (c__law_step_sum : CF P w K mg base 1 "_law_step_sum" F__law_step_sum) : CF P w K mg base 2 "_law_serves" F__law_serves := by
  rw [hx__law_serves]
  exact fn_F (g := g__law_serves) (k := 1) FD hm (FD.bindsN fun _ _ _ _ _ _ us hl => match us, hl with | [_, _, _, _], _ => rfl) sc__law_serves fun cdv A outer s H E hr =>
    have nd := sc__law_serves.nd
    have hu4 := room4 hr
    have hu5 := room5 hr
    l_cons (s_par2 (o1 := false) (o2 := false) (i := 7) (j := 8) rfl nd rfl rfl (by decide) rfl rfl (c_call bkF c__law_gcd hr (by decide) rfl (a_cons (c_sub (qF (c_mul (c_nQ (pv 1)) (c_nQ (pv 1)))) (qF (c_int))) (a_cons (c_int) (a_nil)))) (fO (c_lcK (own := [("_law_step", 9)]) rfl nd (pv 0) (blkOk_by (N := ["_law_powers", "_law_m", "_law_t", "_law_level", "_law_prime", "_law_total", "_law_wide", "_law_k", "_law_some", "_law_step"]) (sc := defScope (top 131)) (by decide +kernel)) (fun _ _ _ _ _ => g_nm (pg_name nd rfl (by first | exact Or.inl rfl | exact Or.inr rfl) (i := 9))) (fun _ _ _ _ _ => t_one (b_ne hu4 (qF (c_ix hu4 (c_nQ (pv 0)) (c_nQ (pv 9)) (fun _ _ => rfl))) (qF (c_int)))) (fun _ _ _ _ _ => c_nF (pv 9)) (by decide))) rfl) (l_cons (s_for PassesOwn.never rfl (i_rg2 rfl M.b_range (qF (c_int)) (qF (c_add (c_nQ (pv 1)) (qF (c_int))))) (g_nm (pg_name nd rfl (by first | exact Or.inl rfl | exact Or.inr rfl) (i := 4))) (l_one (s_if (b_w (w_and (b_eq hu4 (qF (c_mod (qF (c_int1 rfl M.b_int (c_nQ (pv 1)))) (c_nQ (pv 4)))) (qF (c_int))) (w_and (b_ne hu4 (qF (c_mod (qF (c_int1 rfl M.b_int (c_nQ (pv 3)))) (c_nQ (pv 4)))) (qF (c_int))) (w_and1 (b_eq hu4 (qF (c_call bkF c__law_divisors hr (by decide) rfl (a_cons (c_nF (pv 4)) (a_nil)))) (qO (c_lst (a_cons (c_int) (a_cons (c_nF (pv 4)) (a_nil)))))))))) (l_one (s_retF (c_bool))) (l_nil)))) (l_cons (s_if (b_neE hu4 (qO (c_lc (own := [("_law_step", 9)]) rfl nd (i_sq (c_nF (pv 8))) (blkOk_by (N := ["_law_powers", "_law_m", "_law_t", "_law_level", "_law_prime", "_law_total", "_law_wide", "_law_k", "_law_some", "_law_step"]) (sc := defScope (top 131)) (by decide +kernel)) (fun _ _ _ _ _ => g_nm (pg_name nd rfl (by first | exact Or.inl rfl | exact Or.inr rfl) (i := 9))) (fun _ _ _ _ _ => t_one (b_ne hu4 (qF (c_mod (qF (c_int1 rfl M.b_int (qF (c_mul (c_nQ (pv 1)) (c_nQ (pv 3)))))) (c_nQ (pv 9)))) (qF (c_int)))) (fun _ _ _ _ _ => c_nF (pv 9)) (by decide))) (qO (c_lst (a_nil)))) (l_one (s_retF (c_bool))) (l_nil)) (l_cons (s_setF (i := 5) nd rfl (Or.inl rfl) (c_sum rfl rfl M.b_sum (qO (c_lc (own := [("_law_step", 9)]) rfl nd (i_sq (c_nF (pv 8))) (blkOk_by (N := ["_law_powers", "_law_m", "_law_t", "_law_level", "_law_prime", "_law_total", "_law_wide", "_law_k", "_law_some", "_law_step"]) (sc := defScope (top 131)) (by decide +kernel)) (fun _ _ _ _ _ => g_nm (pg_name nd rfl (by first | exact Or.inl rfl | exact Or.inr rfl) (i := 9))) (fun _ _ _ _ _ => t_nil) (fun _ _ _ _ _ => c_mul (qF (c_ix hu4 (c_nQ (pv 0)) (c_nQ (pv 9)) (fun _ _ => rfl))) (qF (c_div (qF (c_mul (c_nQ (pv 1)) (c_nQ (pv 3)))) (c_nQ (pv 9))))) (by decide))))) (l_cons (s_if (b_w (w_or (b_ne hu4 (qF (c_mod (qF (c_int1 rfl M.b_int (qF (c_mul (qF (c_mul (c_nQ (pv 7)) (c_nQ (pv 3)))) (c_nQ (pv 5)))))) (qF (c_int)))) (qF (c_int))) (w_or1 (b_ne hu4 (qF (c_mod (qF (c_int1 rfl M.b_int (qF (c_mul (qF (c_mul (c_nQ (pv 7)) (c_nQ (pv 3)))) (qF (c_call bkF c__law_power_sum hr (by decide) rfl (a_cons (c_nF (pv 0)) (a_nil)))))))) (qF (c_int)))) (qF (c_int)))))) (l_one (s_retF (c_bool))) (l_nil)) (l_cons (s_setF (i := 6) nd rfl (Or.inl rfl) (c_mul (qF (c_int)) (c_nQ (pv 1)))) (l_cons (s_if (b_ne hu4 (qF (c_mod (qF (c_int1 rfl M.b_int (c_nQ (pv 3)))) (qF (c_div (c_nQ (pv 6)) (qF (c_call bkF c__law_gcd hr (by decide) rfl (a_cons (c_mul (c_nQ (pv 7)) (qF (c_add (qF (c_mul (qF (c_int)) (c_nQ (pv 2)))) (qF (c_call bkF c__law_step_sum hr (by decide) rfl (a_cons (c_nF (pv 0)) (a_nil))))))) (a_cons (c_nF (pv 6)) (a_nil))))))))) (qF (c_int))) (l_one (s_retF (c_bool))) (l_nil)) (l_one (s_retF (c_or (c_eq hu4 (qF (c_mod (qF (c_int1 rfl M.b_int (c_nQ (pv 1)))) (qF (c_int)))) (qF (c_int))) (c_one (c_call bkF c__law_is_even_right hr (by decide) rfl (a_cons (c_nF (pv 0)) (a_cons (c_nF (pv 8)) (a_cons (c_mul (c_nQ (pv 7)) (c_nQ (pv 3))) (a_cons (c_nF (pv 3)) (a_nil))))))))))))))))
end
end Q7

-- part Rf
set_option Elab.async false
set_option linter.all false
set_option maxRecDepth 100000
set_option maxHeartbeats 0
namespace Q7
open PySem PySem.Spec PyProof.Rows L2
open C8 (Cal pe_c)
section
variable {P : Program} {w : World} {K : PySem.W.Frag} {mg : Str → Option Value} {base : Heap} {f : Addr} {fd : FuncData}
noncomputable def g__law_told : Sx := sRet (u1 (fLc (sqOf (nF 0)) (bTup 2 (bsCons (bNm 1) (bsCons (bNm 2) (bsNil)))) (bYes) (fTup (aCons (nF 1) (aCons (fCall (aCons (nF 2) (aNil)) F__law_product) (aNil)))) [1, 2]) gTupl)
noncomputable def h__law_told : Sx := xsRet (xu1 (xfLc (xsqOf (xnF 0)) (xbTup 2 (xbsCons (xbNm 1) (xbsCons (xbNm 2) (bsNil)))) (bYes) (xfTup (xaCons (xnF 1) (xaCons (xfCall (xaCons (xnF 2) (aNil)) F__law_product) (aNil)))) [1, 2]) gTupl)
noncomputable def F__law_told : List PyData → Option PyData := xrunF 3 1 h__law_told
theorem hx__law_told : F__law_told = runF 3 1 g__law_told := by
  unfold F__law_told
  rw [xrunF_eq]
  congr 1
  unfold h__law_told g__law_told
  simp only [xaCons_eq, xbNm_eq, xbTup_eq, xbsCons_eq, xfCall_eq, xfLc_eq, xfTup_eq, xnF_eq, xsRet_eq, xsqOf_eq, xu1_eq]
theorem sc__law_told : FnScope ["_law_terms", "_law_number", "_law_one"] ["_law_terms"] (defScope (top 142)) := ⟨rfl, rfl, rfl, by decide +kernel, rfl, by decide +kernel, by decide +kernel⟩
theorem cal__law_told (M : Mg mg) (FD : FunD K "_law_told" "_law_told" (defArgs (top 142)) (defBody (top 142)) (defScope (top 142)) [] [] f fd) (hm : mg "_law_told" = some (.ref f)) (c__law_product : CF P w K mg base 1 "_law_product" F__law_product) : CF P w K mg base 2 "_law_told" F__law_told := by
  rw [hx__law_told]
  exact fn_F (g := g__law_told) (k := 1) FD hm (FD.bindsN fun _ _ _ _ _ _ us hl => match us, hl with | [_], _ => rfl) sc__law_told fun cdv A outer s H E hr =>
    have nd := sc__law_told.nd
    have hu4 := room4 hr
    have hu5 := room5 hr
    l_one (s_retF (c_tuple rfl M.b_tuple (qO (c_lc (own := [("_law_number", 1), ("_law_one", 2)]) rfl nd (i_sq (c_nF (pv 0))) (blkOk_by (N := ["_law_terms", "_law_number", "_law_one"]) (sc := defScope (top 142)) (by decide +kernel)) (fun _ _ _ _ _ => g_tup rfl (gs_cons (g_nm (pg_name nd rfl (by first | exact Or.inl rfl | exact Or.inr rfl) (i := 1))) (gs_cons (g_nm (pg_name nd rfl (by first | exact Or.inl rfl | exact Or.inr rfl) (i := 2))) (gs_nil)))) (fun _ _ _ _ _ => t_nil) (fun _ _ _ _ _ => c_tup (a_cons (c_nF (pv 1)) (a_cons (c_call bkF c__law_product hr (by decide) rfl (a_cons (c_nF (pv 2)) (a_nil))) (a_nil)))) (by decide)))))
noncomputable def g__law_choices : Sx := sCons (sSet 3 (fLst (aCons (kD (.dict [])) (aNil)))) (sCons (sFor (sqOf (fCall (aCons (nF 0) (aNil)) F__law_divisors)) (bNm 4) (sCons (sSetO 5 (fLst (aNil))) (sCons (sFor (sqOf (nF 3)) (bNm 6) (sExt 5 (fLc (r2Of (b2 (kD (.int 0)) (nQ 1) aSub) (b2 (nQ 1) (kD (.int 1)) aAdd)) (bNm 7) (bYes) (fCall (aCons (nF 6) (aCons (fDct (nF 4) (nF 7)) (aNil))) F__law_both) [7]))) (sFz 5 (sSet 3 (nF 5)))))) (sRet (fLc (sqOf (nF 3)) (bNm 6) (oB (b2 (fCall (aCons (nF 6) (aNil)) F__law_power_sum) (nQ 2) cEq)) (nF 6) [6])))
noncomputable def h__law_choices : Sx := xsCons (xsSet 3 (fLst (xaCons (kD (.dict [])) (aNil)))) (xsCons (xsFor (xsqOf (xfCall (xaCons (xnF 0) (aNil)) T__law_divisors)) (xbNm 4) (xsCons (xsSetO 5 (fLst (aNil))) (xsCons (xsFor (xsqOf (xnF 3)) (xbNm 6) (sExt 5 (xfLc (xr2 (xb2 (kD (.int 0)) (xnQ 1) xSub) (xb2 (xnQ 1) (kD (.int 1)) xAdd)) (xbNm 7) (bYes) (xfCall (xaCons (xnF 6) (xaCons (fDct (xnF 4) (xnF 7)) (aNil))) F__law_both) [7]))) (xsFz 5 (xsSet 3 (xnF 5)))))) (xsRet (xfLc (xsqOf (xnF 3)) (xbNm 6) (xoB (xb2 (xfCall (xaCons (xnF 6) (aNil)) F__law_power_sum) (xnQ 2) xEq)) (xnF 6) [6])))
noncomputable def F__law_choices : List PyData → Option PyData := xrunF 8 3 h__law_choices
theorem hx__law_choices : F__law_choices = runF 8 3 g__law_choices := by
  unfold F__law_choices
  rw [xrunF_eq]
  congr 1
  unfold h__law_choices g__law_choices
  simp only [T__law_divisors_eq, xAdd_eq, xEq_eq, xSub_eq, xaCons_eq, xb2_eq, xbNm_eq, xfCall_eq, xfLc_eq, xnF_eq, xnQ_eq, xoB_eq, xr2_eq, xsCons_eq, xsFor_eq, xsFz_eq, xsRet_eq, xsSet_eq, xsSetO_eq, xsqOf_eq]
theorem sc__law_choices : FnScope ["_law_level", "_law_most", "_law_weight", "_law_found", "_law_step", "_law_late", "_law_one", "_law_power"] ["_law_level", "_law_most", "_law_weight"] (defScope (top 145)) := ⟨rfl, rfl, rfl, by decide +kernel, rfl, by decide +kernel, by decide +kernel⟩
theorem cal__law_choices (M : Mg mg) (FD : FunD K "_law_choices" "_law_choices" (defArgs (top 145)) (defBody (top 145)) (defScope (top 145)) [] [] f fd) (hm : mg "_law_choices" = some (.ref f)) (c__law_both : CF P w K mg base 1 "_law_both" F__law_both) (c__law_divisors : CF P w K mg base 1 "_law_divisors" F__law_divisors) (c__law_power_sum : CF P w K mg base 1 "_law_power_sum" F__law_power_sum) : CF P w K mg base 2 "_law_choices" F__law_choices := by
  rw [hx__law_choices]
  exact fn_F (g := g__law_choices) (k := 1) FD hm (FD.bindsN fun _ _ _ _ _ _ us hl => match us, hl with | [_, _, _], _ => rfl) sc__law_choices fun cdv A outer s H E hr =>
    have nd := sc__law_choices.nd
    have hu4 := room4 hr
    have hu5 := room5 hr
    l_cons (s_setF (i := 3) nd rfl (Or.inl rfl) (fO (c_lst (a_cons (fO (c_dct0)) (a_nil))))) (l_cons (s_for PassesOwn.never rfl (i_sq (c_call bkF c__law_divisors hr (by decide) rfl (a_cons (c_nF (pv 0)) (a_nil)))) (g_nm (pg_name nd rfl (by first | exact Or.inl rfl | exact Or.inr rfl) (i := 4))) (l_cons (s_setO (i := 5) nd rfl (Or.inl rfl) (c_lst (a_nil))) (l_cons (s_for PassesOwn.never rfl (i_sq (c_nF (pv 3))) (g_nm (pg_name nd rfl (by first | exact Or.inl rfl | exact Or.inr rfl) (i := 6))) (l_one (s_ext (pe_bm PySem.F.plainAttrs_list PySem.F.slot_list_extend PySem.F.type_list_extend mt_extend (pv 5) (pa_cons (c_lc (own := [("_law_power", 7)]) rfl nd (i_rg2 rfl M.b_range (qF (c_sub (qF (c_int)) (c_nQ (pv 1)))) (qF (c_add (c_nQ (pv 1)) (qF (c_int))))) (blkOk_by (N := ["_law_level", "_law_most", "_law_weight", "_law_found", "_law_step", "_law_late", "_law_one", "_law_power"]) (sc := defScope (top 145)) (by decide +kernel)) (fun _ _ _ _ _ => g_nm (pg_name nd rfl (by first | exact Or.inl rfl | exact Or.inr rfl) (i := 7))) (fun _ _ _ _ _ => t_nil) (fun _ _ _ _ _ => c_call bkF c__law_both hr (by decide) rfl (a_cons (c_nF (pv 6)) (a_cons (fO (c_dct1 (c_nF (pv 4)) (c_nF (pv 7)))) (a_nil)))) (by decide)) pa_nil))))) (l_one (s_fz 5 (s_setF (i := 3) nd rfl (Or.inl rfl) (c_nF (pv 5)))))))) (l_one (s_retF (fO (c_lc (own := [("_law_one", 6)]) rfl nd (i_sq (c_nF (pv 3))) (blkOk_by (N := ["_law_level", "_law_most", "_law_weight", "_law_found", "_law_step", "_law_late", "_law_one", "_law_power"]) (sc := defScope (top 145)) (by decide +kernel)) (fun _ _ _ _ _ => g_nm (pg_name nd rfl (by first | exact Or.inl rfl | exact Or.inr rfl) (i := 6))) (fun _ _ _ _ _ => t_one (b_eq hu4 (qF (c_call bkF c__law_power_sum hr (by decide) rfl (a_cons (c_nF (pv 6)) (a_nil)))) (c_nQ (pv 2)))) (fun _ _ _ _ _ => c_nF (pv 6)) (by decide))))))
noncomputable def g_want_level : Sx := sCons (sIf (bNot (oB (fCall (aCons (nF 0) (aCons (kD (.int 1)) (aCons (kD (.int k_MOST_LEVEL_divisors)) (aNil)))) F_is_between))) (sNo) (sNil)) (sRet (nF 0))
noncomputable def h_want_level : Sx := xsCons (xsIf (xbNot (xoB (xfCall (xaCons (xnF 0) (xaCons (kD (.int 1)) (xaCons (kD (.int k_MOST_LEVEL_divisors)) (aNil)))) F_is_between))) (sNo) (sNil)) (xsRet (xnF 0))
noncomputable def F_want_level : List PyData → Option PyData := xrunF 1 1 h_want_level
theorem hx_want_level : F_want_level = runF 1 1 g_want_level := by
  unfold F_want_level
  rw [xrunF_eq]
  congr 1
  unfold h_want_level g_want_level
  simp only [xaCons_eq, xbNot_eq, xfCall_eq, xnF_eq, xoB_eq, xsCons_eq, xsIf_eq, xsRet_eq]
theorem sc_want_level : FnScope ["value"] ["value"] (defScope (top 26)) := ⟨rfl, rfl, rfl, by decide +kernel, rfl, by decide +kernel, by decide +kernel⟩
theorem cal_want_level (M : Mg mg) (FD : FunD K "want_level" "want_level" (defArgs (top 26)) (defBody (top 26)) (defScope (top 26)) [] [] f fd) (hm : mg "want_level" = some (.ref f)) (c_is_between : CF P w K mg base 2 "is_between" F_is_between) : CF P w K mg base 3 "want_level" F_want_level := by
  rw [hx_want_level]
  exact fn_F (g := g_want_level) (k := 2) FD hm (FD.bindsN fun _ _ _ _ _ _ us hl => match us, hl with | [_], _ => rfl) sc_want_level fun cdv A outer s H E hr =>
    have nd := sc_want_level.nd
    have hu4 := room4 hr
    have hu5 := room5 hr
    l_cons (s_if (b_not (b_val (c_call bkF c_is_between hr (by decide) rfl (a_cons (c_nF (pv 0)) (a_cons (c_int) (a_cons (c_gint rfl M.c_MOST_LEVEL_divisors) (a_nil))))))) (l_no) (l_nil)) (l_one (s_retF (c_nF (pv 0))))
noncomputable def g_is_product_value : Sx := sCons (sIf (bOr (bNot (oB (u1 (nQ 0) isT))) (bOr (oB (b2 (u1 (nQ 0) gLen) (kD (.int 2)) cNe)) (bOr (bNot (oB (u1 (b2 (nQ 0) (kD (.int 0)) gIx) isS))) (oB (b2 (b2 (nQ 0) (kD (.int 0)) gIx) (kD (.str k_WORD)) cNe))))) (sRet (kD (.bool false))) (sNil)) (sCons (sSet 1 (b2 (nQ 0) (kD (.int 1)) gIx)) (sCons (sIf (bOr (bNot (oB (u1 (nQ 1) isT))) (bOr (oB (b2 (u1 (nQ 1) gLen) (kD (.int k_MOST_STEPS)) cGt)) (bNot (oB (u1 (fLc (sqOf (nF 1)) (bNm 2) (bYes) (fCall (aCons (nF 2) (aNil)) F_is_power_pair) [2]) gAll))))) (sRet (kD (.bool false))) (sNil)) (sRet (u1 (fLc (zpTTOf (nF 1) (slT (nQ 1) (soP (kD (.int 1))) (noP))) (bTup 2 (bsCons (bNm 2) (bsCons (bNm 3) (bsNil)))) (bYes) (b2 (b2 (nQ 2) (kD (.int 0)) gIx) (b2 (nQ 3) (kD (.int 0)) gIx) cLt) [2, 3]) gAll))))
noncomputable def h_is_product_value : Sx := xsCons (xsIf (xbOr (xbNot (xoB (xu1 (xnQ 0) isT))) (xbOr (xoB (xb2 (xu1 (xnQ 0) gLen) (kD (.int 2)) xNe)) (xbOr (xbNot (xoB (xu1 (xb2 (xnQ 0) (kD (.int 0)) xIx) isS))) (xoB (xb2 (xb2 (xnQ 0) (kD (.int 0)) xIx) (kD (.str k_WORD)) xNe))))) (xsRet (kD (.bool false))) (sNil)) (xsCons (xsSet 1 (xb2 (xnQ 0) (kD (.int 1)) xIx)) (xsCons (xsIf (xbOr (xbNot (xoB (xu1 (xnQ 1) isT))) (xbOr (xoB (xb2 (xu1 (xnQ 1) gLen) (kD (.int k_MOST_STEPS)) xGt)) (xbNot (xoB (xu1 (xfLc (xsqOf (xnF 1)) (xbNm 2) (bYes) (xfCall (xaCons (xnF 2) (aNil)) F_is_power_pair) [2]) gAll))))) (xsRet (kD (.bool false))) (sNil)) (xsRet (xu1 (xfLc (zpTTOf (xnF 1) (slT (xnQ 1) (soP (kD (.int 1))) (noP))) (xbTup 2 (xbsCons (xbNm 2) (xbsCons (xbNm 3) (bsNil)))) (bYes) (xb2 (xb2 (xnQ 2) (kD (.int 0)) xIx) (xb2 (xnQ 3) (kD (.int 0)) xIx) xLt) [2, 3]) gAll))))
noncomputable def F_is_product_value : List PyData → Option PyData := xrunF 4 1 h_is_product_value
theorem hx_is_product_value : F_is_product_value = runF 4 1 g_is_product_value := by
  unfold F_is_product_value
  rw [xrunF_eq]
  congr 1
  unfold h_is_product_value g_is_product_value
  simp only [xGt_eq, xIx_eq, xLt_eq, xNe_eq, xaCons_eq, xb2_eq, xbNm_eq, xbNot_eq, xbOr_eq, xbTup_eq, xbsCons_eq, xfCall_eq, xfLc_eq, xnF_eq, xnQ_eq, xoB_eq, xsCons_eq, xsIf_eq, xsRet_eq, xsSet_eq, xsqOf_eq, xu1_eq]
theorem sc_is_product_value : FnScope ["value", "powers", "one", "late"] ["value"] (defScope (top 33)) := ⟨rfl, rfl, rfl, by decide +kernel, rfl, by decide +kernel, by decide +kernel⟩
noncomputable def g_difference_of : Sx := sRet (fCall (aCons (b2 (b2 (b2 (nQ 0) (kD (.int 0)) gIx) (b2 (nQ 1) (kD (.int 1)) gIx) aMul) (b2 (b2 (nQ 1) (kD (.int 0)) gIx) (b2 (nQ 0) (kD (.int 1)) gIx) aMul) aSub) (aCons (b2 (b2 (nQ 0) (kD (.int 1)) gIx) (b2 (nQ 1) (kD (.int 1)) gIx) aMul) (aNil))) F_made_ratio)
noncomputable def h_difference_of : Sx := xsRet (xfCall (xaCons (xb2 (xb2 (xb2 (xnQ 0) (kD (.int 0)) xIx) (xb2 (xnQ 1) (kD (.int 1)) xIx) xMul) (xb2 (xb2 (xnQ 1) (kD (.int 0)) xIx) (xb2 (xnQ 0) (kD (.int 1)) xIx) xMul) xSub) (xaCons (xb2 (xb2 (xnQ 0) (kD (.int 1)) xIx) (xb2 (xnQ 1) (kD (.int 1)) xIx) xMul) (aNil))) T_made_ratio)
noncomputable def F_difference_of : List PyData → Option PyData := xrunF 2 2 h_difference_of
theorem hx_difference_of : F_difference_of = runF 2 2 g_difference_of := by
  unfold F_difference_of
  rw [xrunF_eq]
  congr 1
  unfold h_difference_of g_difference_of
  simp only [T_made_ratio_eq, xIx_eq, xMul_eq, xSub_eq, xaCons_eq, xb2_eq, xfCall_eq, xnQ_eq, xsRet_eq]
theorem sc_difference_of : FnScope ["one", "other"] ["one", "other"] (defScope (top 38)) := ⟨rfl, rfl, rfl, by decide +kernel, rfl, by decide +kernel, by decide +kernel⟩
theorem cal_difference_of (M : Mg mg) (FD : FunD K "difference_of" "difference_of" (defArgs (top 38)) (defBody (top 38)) (defScope (top 38)) [] [] f fd) (hm : mg "difference_of" = some (.ref f)) (c_made_ratio : CF P w K mg base 2 "made_ratio" F_made_ratio) : CF P w K mg base 3 "difference_of" F_difference_of := by
  rw [hx_difference_of]
  exact fn_F (g := g_difference_of) (k := 2) FD hm (FD.bindsN fun _ _ _ _ _ _ us hl => match us, hl with | [_, _], _ => rfl) sc_difference_of fun cdv A outer s H E hr =>
    have nd := sc_difference_of.nd
    have hu4 := room4 hr
    have hu5 := room5 hr
    l_one (s_retF (c_call bkF c_made_ratio hr (by decide) rfl (a_cons (c_sub (qF (c_mul (qF (c_ix hu4 (c_nQ (pv 0)) (qF (c_int)) (fun _ _ => rfl))) (qF (c_ix hu4 (c_nQ (pv 1)) (qF (c_int)) (fun _ _ => rfl))))) (qF (c_mul (qF (c_ix hu4 (c_nQ (pv 1)) (qF (c_int)) (fun _ _ => rfl))) (qF (c_ix hu4 (c_nQ (pv 0)) (qF (c_int)) (fun _ _ => rfl)))))) (a_cons (c_mul (qF (c_ix hu4 (c_nQ (pv 0)) (qF (c_int)) (fun _ _ => rfl))) (qF (c_ix hu4 (c_nQ (pv 1)) (qF (c_int)) (fun _ _ => rfl)))) (a_nil)))))
noncomputable def g_product_of_two : Sx := sRet (fCall (aCons (b2 (b2 (nQ 0) (kD (.int 0)) gIx) (b2 (nQ 1) (kD (.int 0)) gIx) aMul) (aCons (b2 (b2 (nQ 0) (kD (.int 1)) gIx) (b2 (nQ 1) (kD (.int 1)) gIx) aMul) (aNil))) F_made_ratio)
noncomputable def h_product_of_two : Sx := xsRet (xfCall (xaCons (xb2 (xb2 (xnQ 0) (kD (.int 0)) xIx) (xb2 (xnQ 1) (kD (.int 0)) xIx) xMul) (xaCons (xb2 (xb2 (xnQ 0) (kD (.int 1)) xIx) (xb2 (xnQ 1) (kD (.int 1)) xIx) xMul) (aNil))) T_made_ratio)
noncomputable def F_product_of_two : List PyData → Option PyData := xrunF 2 2 h_product_of_two
theorem hx_product_of_two : F_product_of_two = runF 2 2 g_product_of_two := by
  unfold F_product_of_two
  rw [xrunF_eq]
  congr 1
  unfold h_product_of_two g_product_of_two
  simp only [T_made_ratio_eq, xIx_eq, xMul_eq, xaCons_eq, xb2_eq, xfCall_eq, xnQ_eq, xsRet_eq]
theorem sc_product_of_two : FnScope ["one", "other"] ["one", "other"] (defScope (top 39)) := ⟨rfl, rfl, rfl, by decide +kernel, rfl, by decide +kernel, by decide +kernel⟩
theorem cal_product_of_two (M : Mg mg) (FD : FunD K "product_of_two" "product_of_two" (defArgs (top 39)) (defBody (top 39)) (defScope (top 39)) [] [] f fd) (hm : mg "product_of_two" = some (.ref f)) (c_made_ratio : CF P w K mg base 2 "made_ratio" F_made_ratio) : CF P w K mg base 3 "product_of_two" F_product_of_two := by
  rw [hx_product_of_two]
  exact fn_F (g := g_product_of_two) (k := 2) FD hm (FD.bindsN fun _ _ _ _ _ _ us hl => match us, hl with | [_, _], _ => rfl) sc_product_of_two fun cdv A outer s H E hr =>
    have nd := sc_product_of_two.nd
    have hu4 := room4 hr
    have hu5 := room5 hr
    l_one (s_retF (c_call bkF c_made_ratio hr (by decide) rfl (a_cons (c_mul (qF (c_ix hu4 (c_nQ (pv 0)) (qF (c_int)) (fun _ _ => rfl))) (qF (c_ix hu4 (c_nQ (pv 1)) (qF (c_int)) (fun _ _ => rfl)))) (a_cons (c_mul (qF (c_ix hu4 (c_nQ (pv 0)) (qF (c_int)) (fun _ _ => rfl))) (qF (c_ix hu4 (c_nQ (pv 1)) (qF (c_int)) (fun _ _ => rfl)))) (a_nil)))))
noncomputable def g_shift_by : Sx := sRet (fCall (aCons (fCall (aCons (nF 0) (aNil)) F_step_sum) (aCons (kD (.int k_SHIFT_UNDER)) (aNil))) F_made_ratio)
noncomputable def h_shift_by : Sx := xsRet (xfCall (xaCons (xfCall (xaCons (xnF 0) (aNil)) F_step_sum) (xaCons (kD (.int k_SHIFT_UNDER)) (aNil))) T_made_ratio)
noncomputable def F_shift_by : List PyData → Option PyData := xrunF 1 1 h_shift_by
theorem hx_shift_by : F_shift_by = runF 1 1 g_shift_by := by
  unfold F_shift_by
  rw [xrunF_eq]
  congr 1
  unfold h_shift_by g_shift_by
  simp only [T_made_ratio_eq, xaCons_eq, xfCall_eq, xnF_eq, xsRet_eq]
theorem sc_shift_by : FnScope ["product"] ["product"] (defScope (top 49)) := ⟨rfl, rfl, rfl, by decide +kernel, rfl, by decide +kernel, by decide +kernel⟩
theorem cal_shift_by (M : Mg mg) (FD : FunD K "shift_by" "shift_by" (defArgs (top 49)) (defBody (top 49)) (defScope (top 49)) [] [] f fd) (hm : mg "shift_by" = some (.ref f)) (c_made_ratio : CF P w K mg base 2 "made_ratio" F_made_ratio) (c_step_sum : CF P w K mg base 1 "step_sum" F_step_sum) : CF P w K mg base 3 "shift_by" F_shift_by := by
  rw [hx_shift_by]
  exact fn_F (g := g_shift_by) (k := 2) FD hm (FD.bindsN fun _ _ _ _ _ _ us hl => match us, hl with | [_], _ => rfl) sc_shift_by fun cdv A outer s H E hr =>
    have nd := sc_shift_by.nd
    have hu4 := room4 hr
    have hu5 := room5 hr
    l_one (s_retF (c_call bkF c_made_ratio hr (by decide) rfl (a_cons (c_call bkF c_step_sum hr (by decide) rfl (a_cons (c_nF (pv 0)) (a_nil))) (a_cons (c_gint rfl M.c_SHIFT_UNDER) (a_nil)))))
noncomputable def g_want_choices : Sx := sCons (sSet 2 (fCall (aCons (nF 0) (aNil)) F_small_divisors)) (sCons (sSet 3 (kD (.int 1))) (sCons (sFor (sqOf (nF 2)) (bNm 4) (sSet 3 (b2 (nQ 3) (b2 (b2 (kD (.int 2)) (nQ 1) aMul) (kD (.int 1)) aAdd) aMul))) (sCons (sDrop (fCall (aCons (kD (.str "choices")) (aCons (kD (.int k_MOST_CHOICES)) (aCons (nF 3) (aNil)))) F_want_at_most)) (sRet (nF 2)))))
noncomputable def h_want_choices : Sx := xsCons (xsSet 2 (xfCall (xaCons (xnF 0) (aNil)) F_small_divisors)) (xsCons (xsSet 3 (kD (.int 1))) (xsCons (xsFor (xsqOf (xnF 2)) (xbNm 4) (xsSet 3 (xb2 (xnQ 3) (xb2 (xb2 (kD (.int 2)) (xnQ 1) xMul) (kD (.int 1)) xAdd) xMul))) (xsCons (sDrop (xfCall (xaCons (kD (.str "choices")) (xaCons (kD (.int k_MOST_CHOICES)) (xaCons (xnF 3) (aNil)))) F_want_at_most)) (xsRet (xnF 2)))))
noncomputable def F_want_choices : List PyData → Option PyData := xrunF 5 2 h_want_choices
theorem hx_want_choices : F_want_choices = runF 5 2 g_want_choices := by
  unfold F_want_choices
  rw [xrunF_eq]
  congr 1
  unfold h_want_choices g_want_choices
  simp only [xAdd_eq, xMul_eq, xaCons_eq, xb2_eq, xbNm_eq, xfCall_eq, xnF_eq, xnQ_eq, xsCons_eq, xsFor_eq, xsRet_eq, xsSet_eq, xsqOf_eq]
theorem sc_want_choices : FnScope ["level", "many", "steps", "choices", "step"] ["level", "many"] (defScope (top 56)) := ⟨rfl, rfl, rfl, by decide +kernel, rfl, by decide +kernel, by decide +kernel⟩
theorem cal_want_choices (M : Mg mg) (FD : FunD K "want_choices" "want_choices" (defArgs (top 56)) (defBody (top 56)) (defScope (top 56)) [] [] f fd) (hm : mg "want_choices" = some (.ref f)) (c_small_divisors : CF P w K mg base 2 "small_divisors" F_small_divisors) (c_want_at_most : CF P w K mg base 1 "want_at_most" F_want_at_most) : CF P w K mg base 3 "want_choices" F_want_choices := by
  rw [hx_want_choices]
  exact fn_F (g := g_want_choices) (k := 2) FD hm (FD.bindsN fun _ _ _ _ _ _ us hl => match us, hl with | [_, _], _ => rfl) sc_want_choices fun cdv A outer s H E hr =>
    have nd := sc_want_choices.nd
    have hu4 := room4 hr
    have hu5 := room5 hr
    l_cons (s_setF (i := 2) nd rfl (Or.inl rfl) (c_call bkF c_small_divisors hr (by decide) rfl (a_cons (c_nF (pv 0)) (a_nil)))) (l_cons (s_setF (i := 3) nd rfl (Or.inl rfl) (c_int)) (l_cons (s_for PassesOwn.never rfl (i_sq (c_nF (pv 2))) (g_nm (pg_name nd rfl (by first | exact Or.inl rfl | exact Or.inr rfl) (i := 4))) (l_one (s_setF (i := 3) nd rfl (Or.inl rfl) (c_mul (c_nQ (pv 3)) (qF (c_add (qF (c_mul (qF (c_int)) (c_nQ (pv 1)))) (qF (c_int)))))))) (l_cons (s_expr (c_call bkF c_want_at_most hr (by decide) rfl (a_cons (c_str) (a_cons (c_gint rfl M.c_MOST_CHOICES) (a_cons (c_nF (pv 3)) (a_nil)))))) (l_one (s_retF (c_nF (pv 2)))))))
noncomputable def g_want_size : Sx := sCons (sIf (bNot (oB (fCall (aCons (nF 0) (aCons (kD (.int 1)) (aCons (kD (.int k_MOST_SIZE)) (aNil)))) F_is_between))) (sNo) (sNil)) (sRet (nF 0))
noncomputable def h_want_size : Sx := xsCons (xsIf (xbNot (xoB (xfCall (xaCons (xnF 0) (xaCons (kD (.int 1)) (xaCons (kD (.int k_MOST_SIZE)) (aNil)))) F_is_between))) (sNo) (sNil)) (xsRet (xnF 0))
noncomputable def F_want_size : List PyData → Option PyData := xrunF 1 1 h_want_size
theorem hx_want_size : F_want_size = runF 1 1 g_want_size := by
  unfold F_want_size
  rw [xrunF_eq]
  congr 1
  unfold h_want_size g_want_size
  simp only [xaCons_eq, xbNot_eq, xfCall_eq, xnF_eq, xoB_eq, xsCons_eq, xsIf_eq, xsRet_eq]
theorem sc_want_size : FnScope ["value"] ["value"] (defScope (top 57)) := ⟨rfl, rfl, rfl, by decide +kernel, rfl, by decide +kernel, by decide +kernel⟩
theorem cal_want_size (M : Mg mg) (FD : FunD K "want_size" "want_size" (defArgs (top 57)) (defBody (top 57)) (defScope (top 57)) [] [] f fd) (hm : mg "want_size" = some (.ref f)) (c_is_between : CF P w K mg base 2 "is_between" F_is_between) : CF P w K mg base 3 "want_size" F_want_size := by
  rw [hx_want_size]
  exact fn_F (g := g_want_size) (k := 2) FD hm (FD.bindsN fun _ _ _ _ _ _ us hl => match us, hl with | [_], _ => rfl) sc_want_size fun cdv A outer s H E hr =>
    have nd := sc_want_size.nd
    have hu4 := room4 hr
    have hu5 := room5 hr
    l_cons (s_if (b_not (b_val (c_call bkF c_is_between hr (by decide) rfl (a_cons (c_nF (pv 0)) (a_cons (c_int) (a_cons (c_gint rfl M.c_MOST_SIZE) (a_nil))))))) (l_no) (l_nil)) (l_one (s_retF (c_nF (pv 0))))
noncomputable def g_ends_of : Sx := sCons (sSetO 1 (fLst (aNil))) (sCons (sFor (sqOf (fCall (aCons (nF 0) (aNil)) F_divisors_in)) (bNm 2) (sApp 1 (fTup (aCons (nF 2) (aCons (fCall (aCons (fCall (aCons (nF 2) (aCons (b2 (nQ 0) (nQ 2) aDiv) (aNil))) nGcd) (aNil)) F_beside_count) (aCons (fCall (aCons (nF 0) (aCons (nF 2) (aNil))) F_width_of) (aNil))))))) (sFz 1 (sRet (nF 1))))
noncomputable def h_ends_of : Sx := xsCons (xsSetO 1 (fLst (aNil))) (xsCons (xsFor (xsqOf (xfCall (xaCons (xnF 0) (aNil)) T_divisors_in)) (xbNm 2) (xsApp 1 (xfTup (xaCons (xnF 2) (xaCons (xfCall (xaCons (xfCall (xaCons (xnF 2) (xaCons (xb2 (xnQ 0) (xnQ 2) xDiv) (aNil))) nGcd) (aNil)) T_beside_count) (xaCons (xfCall (xaCons (xnF 0) (xaCons (xnF 2) (aNil))) F_width_of) (aNil))))))) (xsFz 1 (xsRet (xnF 1))))
noncomputable def F_ends_of : List PyData → Option PyData := xrunF 3 1 h_ends_of
theorem hx_ends_of : F_ends_of = runF 3 1 g_ends_of := by
  unfold F_ends_of
  rw [xrunF_eq]
  congr 1
  unfold h_ends_of g_ends_of
  simp only [T_beside_count_eq, T_divisors_in_eq, xDiv_eq, xaCons_eq, xb2_eq, xbNm_eq, xfCall_eq, xfTup_eq, xnF_eq, xnQ_eq, xsApp_eq, xsCons_eq, xsFor_eq, xsFz_eq, xsRet_eq, xsSetO_eq, xsqOf_eq]
noncomputable def tab_ends_of : List (List Int × PyData) := [([Int.ofNat 1], .list [.tuple [.int (Int.ofNat 1), .int (Int.ofNat 1), .int (Int.ofNat 1)]]), ([Int.ofNat 2], .list [.tuple [.int (Int.ofNat 1), .int (Int.ofNat 1), .int (Int.ofNat 2)], .tuple [.int (Int.ofNat 2), .int (Int.ofNat 1), .int (Int.ofNat 1)]]), ([Int.ofNat 3], .list [.tuple [.int (Int.ofNat 1), .int (Int.ofNat 1), .int (Int.ofNat 3)], .tuple [.int (Int.ofNat 3), .int (Int.ofNat 1), .int (Int.ofNat 1)]]), ([Int.ofNat 4], .list [.tuple [.int (Int.ofNat 1), .int (Int.ofNat 1), .int (Int.ofNat 4)], .tuple [.int (Int.ofNat 2), .int (Int.ofNat 1), .int (Int.ofNat 1)], .tuple [.int (Int.ofNat 4), .int (Int.ofNat 1), .int (Int.ofNat 1)]]), ([Int.ofNat 5], .list [.tuple [.int (Int.ofNat 1), .int (Int.ofNat 1), .int (Int.ofNat 5)], .tuple [.int (Int.ofNat 5), .int (Int.ofNat 1), .int (Int.ofNat 1)]]), ([Int.ofNat 6], .list [.tuple [.int (Int.ofNat 1), .int (Int.ofNat 1), .int (Int.ofNat 6)], .tuple [.int (Int.ofNat 2), .int (Int.ofNat 1), .int (Int.ofNat 3)], .tuple [.int (Int.ofNat 3), .int (Int.ofNat 1), .int (Int.ofNat 2)], .tuple [.int (Int.ofNat 6), .int (Int.ofNat 1), .int (Int.ofNat 1)]]), ([Int.ofNat 7], .list [.tuple [.int (Int.ofNat 1), .int (Int.ofNat 1), .int (Int.ofNat 7)], .tuple [.int (Int.ofNat 7), .int (Int.ofNat 1), .int (Int.ofNat 1)]]), ([Int.ofNat 8], .list [.tuple [.int (Int.ofNat 1), .int (Int.ofNat 1), .int (Int.ofNat 8)], .tuple [.int (Int.ofNat 2), .int (Int.ofNat 1), .int (Int.ofNat 2)], .tuple [.int (Int.ofNat 4), .int (Int.ofNat 1), .int (Int.ofNat 1)], .tuple [.int (Int.ofNat 8), .int (Int.ofNat 1), .int (Int.ofNat 1)]]), ([Int.ofNat 10], .list [.tuple [.int (Int.ofNat 1), .int (Int.ofNat 1), .int (Int.ofNat 10)], .tuple [.int (Int.ofNat 2), .int (Int.ofNat 1), .int (Int.ofNat 5)], .tuple [.int (Int.ofNat 5), .int (Int.ofNat 1), .int (Int.ofNat 2)], .tuple [.int (Int.ofNat 10), .int (Int.ofNat 1), .int (Int.ofNat 1)]]), ([Int.ofNat 12], .list [.tuple [.int (Int.ofNat 1), .int (Int.ofNat 1), .int (Int.ofNat 12)], .tuple [.int (Int.ofNat 2), .int (Int.ofNat 1), .int (Int.ofNat 3)], .tuple [.int (Int.ofNat 3), .int (Int.ofNat 1), .int (Int.ofNat 4)], .tuple [.int (Int.ofNat 4), .int (Int.ofNat 1), .int (Int.ofNat 3)], .tuple [.int (Int.ofNat 6), .int (Int.ofNat 1), .int (Int.ofNat 1)], .tuple [.int (Int.ofNat 12), .int (Int.ofNat 1), .int (Int.ofNat 1)]]), ([Int.ofNat 15], .list [.tuple [.int (Int.ofNat 1), .int (Int.ofNat 1), .int (Int.ofNat 15)], .tuple [.int (Int.ofNat 3), .int (Int.ofNat 1), .int (Int.ofNat 5)], .tuple [.int (Int.ofNat 5), .int (Int.ofNat 1), .int (Int.ofNat 3)], .tuple [.int (Int.ofNat 15), .int (Int.ofNat 1), .int (Int.ofNat 1)]]), ([Int.ofNat 24], .list [.tuple [.int (Int.ofNat 1), .int (Int.ofNat 1), .int (Int.ofNat 24)], .tuple [.int (Int.ofNat 2), .int (Int.ofNat 1), .int (Int.ofNat 6)], .tuple [.int (Int.ofNat 3), .int (Int.ofNat 1), .int (Int.ofNat 8)], .tuple [.int (Int.ofNat 4), .int (Int.ofNat 1), .int (Int.ofNat 3)], .tuple [.int (Int.ofNat 6), .int (Int.ofNat 1), .int (Int.ofNat 2)], .tuple [.int (Int.ofNat 8), .int (Int.ofNat 1), .int (Int.ofNat 3)], .tuple [.int (Int.ofNat 12), .int (Int.ofNat 1), .int (Int.ofNat 1)], .tuple [.int (Int.ofNat 24), .int (Int.ofNat 1), .int (Int.ofNat 1)]])]
noncomputable def T_ends_of : List PyData → Option PyData := xtab (look tab_ends_of) F_ends_of
theorem T_ends_of_eq : T_ends_of = F_ends_of := tab_eq (by kernel_rfl)
theorem sc_ends_of : FnScope ["level", "found", "end"] ["level"] (defScope (top 60)) := ⟨rfl, rfl, rfl, by decide +kernel, rfl, by decide +kernel, by decide +kernel⟩
theorem cal_ends_of (M : Mg mg) (FD : FunD K "ends_of" "ends_of" (defArgs (top 60)) (defBody (top 60)) (defScope (top 60)) [] [] f fd) (hm : mg "ends_of" = some (.ref f)) (c_beside_count : CF P w K mg base 2 "beside_count" F_beside_count) (c_divisors_in : CF P w K mg base 1 "divisors_in" F_divisors_in) (c_greatest_common : CF P w K mg base 1 "greatest_common" nGcd) (c_width_of : CF P w K mg base 2 "width_of" F_width_of) : CF P w K mg base 3 "ends_of" F_ends_of := by
  rw [hx_ends_of]
  exact fn_F (g := g_ends_of) (k := 2) FD hm (FD.bindsN fun _ _ _ _ _ _ us hl => match us, hl with | [_], _ => rfl) sc_ends_of fun cdv A outer s H E hr =>
    have nd := sc_ends_of.nd
    have hu4 := room4 hr
    have hu5 := room5 hr
    l_cons (s_setO (i := 1) nd rfl (Or.inl rfl) (c_lst (a_nil))) (l_cons (s_for PassesOwn.never rfl (i_sq (c_call bkF c_divisors_in hr (by decide) rfl (a_cons (c_nF (pv 0)) (a_nil)))) (g_nm (pg_name nd rfl (by first | exact Or.inl rfl | exact Or.inr rfl) (i := 2))) (l_one (s_app (pe_bm PySem.F.plainAttrs_list PySem.F.slot_list_append PySem.F.type_list_append mt_append (pv 1) (pa_cons (c_tup (a_cons (c_nF (pv 2)) (a_cons (c_call bkF c_beside_count hr (by decide) rfl (a_cons (c_call bkF c_greatest_common hr (by decide) rfl (a_cons (c_nF (pv 2)) (a_cons (c_div (c_nQ (pv 0)) (c_nQ (pv 2))) (a_nil)))) (a_nil))) (a_cons (c_call bkF c_width_of hr (by decide) rfl (a_cons (c_nF (pv 0)) (a_cons (c_nF (pv 2)) (a_nil)))) (a_nil))))) pa_nil))))) (l_one (s_fz 1 (s_retF (c_nF (pv 1))))))
noncomputable def g_want_step : Sx := sCons (sIf (bOr (bNot (oB (fCall (aCons (nF 0) (aNil)) F_is_count))) (bNot (oB (ch3 (kD (.int 1)) (nQ 0) (kD (.int k_MOST_STEP_orbits)) pLe pLe)))) (sNo) (sNil)) (sRet (nF 0))
noncomputable def h_want_step : Sx := xsCons (xsIf (xbOr (xbNot (xoB (xfCall (xaCons (xnF 0) (aNil)) F_is_count))) (xbNot (xoB (ch3 (kD (.int 1)) (xnQ 0) (kD (.int k_MOST_STEP_orbits)) pLe pLe)))) (sNo) (sNil)) (xsRet (xnF 0))
noncomputable def F_want_step : List PyData → Option PyData := xrunF 1 1 h_want_step
theorem hx_want_step : F_want_step = runF 1 1 g_want_step := by
  unfold F_want_step
  rw [xrunF_eq]
  congr 1
  unfold h_want_step g_want_step
  simp only [xaCons_eq, xbNot_eq, xbOr_eq, xfCall_eq, xnF_eq, xnQ_eq, xoB_eq, xsCons_eq, xsIf_eq, xsRet_eq]
theorem sc_want_step : FnScope ["m"] ["m"] (defScope (top 63)) := ⟨rfl, rfl, rfl, by decide +kernel, rfl, by decide +kernel, by decide +kernel⟩
theorem cal_want_step (M : Mg mg) (FD : FunD K "want_step" "want_step" (defArgs (top 63)) (defBody (top 63)) (defScope (top 63)) [] [] f fd) (hm : mg "want_step" = some (.ref f)) (c_is_count : CF P w K mg base 2 "is_count" F_is_count) : CF P w K mg base 3 "want_step" F_want_step := by
  rw [hx_want_step]
  exact fn_F (g := g_want_step) (k := 2) FD hm (FD.bindsN fun _ _ _ _ _ _ us hl => match us, hl with | [_], _ => rfl) sc_want_step fun cdv A outer s H E hr =>
    have nd := sc_want_step.nd
    have hu4 := room4 hr
    have hu5 := room5 hr
    l_cons (s_if (b_w (w_or (b_not (b_val (c_call bkF c_is_count hr (by decide) rfl (a_cons (c_nF (pv 0)) (a_nil))))) (w_or1 (b_not (b_ch op_le op_le (qF (c_int)) (c_nQ (pv 0)) (qF (c_gint rfl M.c_MOST_STEP_orbits))))))) (l_no) (l_nil)) (l_one (s_retF (c_nF (pv 0))))
noncomputable def g_is_met_by : Sx := sCons (sSet 4 (b2 (kD (.int 24)) (nQ 1) aMul)) (sRet (b2 (b2 (nQ 3) (b2 (nQ 4) (fCall (aCons (b2 (fCall (aCons (nF 1) (aNil)) F_factor_of) (b2 (b2 (kD (.int 24)) (nQ 2) aMul) (fCall (aCons (nF 0) (aNil)) F_step_sum) aAdd) aMul) (aCons (nF 4) (aNil))) nGcd) aDiv) aMod) (kD (.int 0)) cEq))
noncomputable def h_is_met_by : Sx := xsCons (xsSet 4 (xb2 (kD (.int 24)) (xnQ 1) xMul)) (xsRet (xb2 (xb2 (xnQ 3) (xb2 (xnQ 4) (xfCall (xaCons (xb2 (xfCall (xaCons (xnF 1) (aNil)) F_factor_of) (xb2 (xb2 (kD (.int 24)) (xnQ 2) xMul) (xfCall (xaCons (xnF 0) (aNil)) F_step_sum) xAdd) xMul) (xaCons (xnF 4) (aNil))) nGcd) xDiv) xMod) (kD (.int 0)) xEq))
noncomputable def F_is_met_by : List PyData → Option PyData := xrunF 5 4 h_is_met_by
theorem hx_is_met_by : F_is_met_by = runF 5 4 g_is_met_by := by
  unfold F_is_met_by
  rw [xrunF_eq]
  congr 1
  unfold h_is_met_by g_is_met_by
  simp only [xAdd_eq, xDiv_eq, xEq_eq, xMod_eq, xMul_eq, xaCons_eq, xb2_eq, xfCall_eq, xnF_eq, xnQ_eq, xsCons_eq, xsRet_eq, xsSet_eq]
theorem sc_is_met_by : FnScope ["product", "m", "t", "level", "wide"] ["product", "m", "t", "level"] (defScope (top 69)) := ⟨rfl, rfl, rfl, by decide +kernel, rfl, by decide +kernel, by decide +kernel⟩
theorem cal_is_met_by (M : Mg mg) (FD : FunD K "is_met_by" "is_met_by" (defArgs (top 69)) (defBody (top 69)) (defScope (top 69)) [] [] f fd) (hm : mg "is_met_by" = some (.ref f)) (c_factor_of : CF P w K mg base 2 "factor_of" F_factor_of) (c_greatest_common : CF P w K mg base 1 "greatest_common" nGcd) (c_step_sum : CF P w K mg base 1 "step_sum" F_step_sum) : CF P w K mg base 3 "is_met_by" F_is_met_by := by
  rw [hx_is_met_by]
  exact fn_F (g := g_is_met_by) (k := 2) FD hm (FD.bindsN fun _ _ _ _ _ _ us hl => match us, hl with | [_, _, _, _], _ => rfl) sc_is_met_by fun cdv A outer s H E hr =>
    have nd := sc_is_met_by.nd
    have hu4 := room4 hr
    have hu5 := room5 hr
    l_cons (s_setF (i := 4) nd rfl (Or.inl rfl) (c_mul (qF (c_int)) (c_nQ (pv 1)))) (l_one (s_retF (c_eq hu4 (qF (c_mod (c_nQ (pv 3)) (qF (c_div (c_nQ (pv 4)) (qF (c_call bkF c_greatest_common hr (by decide) rfl (a_cons (c_mul (qF (c_call bkF c_factor_of hr (by decide) rfl (a_cons (c_nF (pv 1)) (a_nil)))) (qF (c_add (qF (c_mul (qF (c_int)) (c_nQ (pv 2)))) (qF (c_call bkF c_step_sum hr (by decide) rfl (a_cons (c_nF (pv 0)) (a_nil))))))) (a_cons (c_nF (pv 4)) (a_nil))))))))) (qF (c_int)))))
end
end Q7

-- part Rg
set_option Elab.async false
set_option linter.all false
set_option maxRecDepth 100000
set_option maxHeartbeats 0
namespace Q7
open PySem PySem.Spec PyProof.Rows L2
open C8 (Cal pe_c)
section
variable {P : Program} {w : World} {K : PySem.W.Frag} {mg : Str → Option Value} {base : Heap} {f : Addr} {fd : FuncData}
noncomputable def g_is_even_right : Sx := sCons (sIf (oB (b2 (b2 (nQ 1) (kD (.int 2)) aMod) (kD (.int 1)) cEq)) (sRet (kD (.bool true))) (sNil)) (sCons (sAsg (fCall (aCons (nF 0) (aNil)) F_twos_and_odd) (bTup 2 (bsCons (bNm 3) (bsCons (bNm 4) (bsNil))))) (sCons (sIf (bAnd (oB (b2 (b2 (b2 (fCall (aCons (nF 1) (aNil)) F_factor_of) (nQ 2) aMul) (kD (.int 4)) aMod) (kD (.int 0)) cEq)) (oB (b2 (b2 (b2 (nQ 3) (nQ 2) aMul) (kD (.int 8)) aMod) (kD (.int 0)) cEq))) (sRet (kD (.bool true))) (sNil)) (sRet (vAnd (b2 (b2 (nQ 3) (kD (.int 2)) aMod) (kD (.int 0)) cEq) (b2 (b2 (b2 (nQ 2) (b2 (kD (.int 1)) (nQ 4) aSub) aMul) (kD (.int 8)) aMod) (kD (.int 0)) cEq)))))
noncomputable def h_is_even_right : Sx := xsCons (xsIf (xoB (xb2 (xb2 (xnQ 1) (kD (.int 2)) xMod) (kD (.int 1)) xEq)) (xsRet (kD (.bool true))) (sNil)) (xsCons (sAsg (xfCall (xaCons (xnF 0) (aNil)) F_twos_and_odd) (xbTup 2 (xbsCons (xbNm 3) (xbsCons (xbNm 4) (bsNil))))) (xsCons (xsIf (xbAnd (xoB (xb2 (xb2 (xb2 (xfCall (xaCons (xnF 1) (aNil)) F_factor_of) (xnQ 2) xMul) (kD (.int 4)) xMod) (kD (.int 0)) xEq)) (xoB (xb2 (xb2 (xb2 (xnQ 3) (xnQ 2) xMul) (kD (.int 8)) xMod) (kD (.int 0)) xEq))) (xsRet (kD (.bool true))) (sNil)) (xsRet (xvAnd (xb2 (xb2 (xnQ 3) (kD (.int 2)) xMod) (kD (.int 0)) xEq) (xb2 (xb2 (xb2 (xnQ 2) (xb2 (kD (.int 1)) (xnQ 4) xSub) xMul) (kD (.int 8)) xMod) (kD (.int 0)) xEq)))))
noncomputable def F_is_even_right : List PyData → Option PyData := xrunF 5 3 h_is_even_right
theorem hx_is_even_right : F_is_even_right = runF 5 3 g_is_even_right := by
  unfold F_is_even_right
  rw [xrunF_eq]
  congr 1
  unfold h_is_even_right g_is_even_right
  simp only [xEq_eq, xMod_eq, xMul_eq, xSub_eq, xaCons_eq, xb2_eq, xbAnd_eq, xbNm_eq, xbTup_eq, xbsCons_eq, xfCall_eq, xnF_eq, xnQ_eq, xoB_eq, xsCons_eq, xsIf_eq, xsRet_eq, xvAnd_eq]
theorem sc_is_even_right : FnScope ["product", "m", "level", "twos", "odd"] ["product", "m", "level"] (defScope (top 71)) := ⟨rfl, rfl, rfl, by decide +kernel, rfl, by decide +kernel, by decide +kernel⟩
theorem cal_is_even_right (M : Mg mg) (FD : FunD K "is_even_right" "is_even_right" (defArgs (top 71)) (defBody (top 71)) (defScope (top 71)) [] [] f fd) (hm : mg "is_even_right" = some (.ref f)) (c_factor_of : CF P w K mg base 2 "factor_of" F_factor_of) (c_twos_and_odd : CF P w K mg base 1 "twos_and_odd" F_twos_and_odd) : CF P w K mg base 3 "is_even_right" F_is_even_right := by
  rw [hx_is_even_right]
  exact fn_F (g := g_is_even_right) (k := 2) FD hm (FD.bindsN fun _ _ _ _ _ _ us hl => match us, hl with | [_, _, _], _ => rfl) sc_is_even_right fun cdv A outer s H E hr =>
    have nd := sc_is_even_right.nd
    have hu4 := room4 hr
    have hu5 := room5 hr
    l_cons (s_if (b_eq hu4 (qF (c_mod (c_nQ (pv 1)) (qF (c_int)))) (qF (c_int))) (l_one (s_retF (c_bool))) (l_nil)) (l_cons (s_asg (c_call bkF c_twos_and_odd hr (by decide) rfl (a_cons (c_nF (pv 0)) (a_nil))) (g_tup rfl (gs_cons (g_nm (pg_name nd rfl (by first | exact Or.inl rfl | exact Or.inr rfl) (i := 3))) (gs_cons (g_nm (pg_name nd rfl (by first | exact Or.inl rfl | exact Or.inr rfl) (i := 4))) (gs_nil))))) (l_cons (s_if (b_w (w_and (b_eq hu4 (qF (c_mod (qF (c_mul (qF (c_call bkF c_factor_of hr (by decide) rfl (a_cons (c_nF (pv 1)) (a_nil)))) (c_nQ (pv 2)))) (qF (c_int)))) (qF (c_int))) (w_and1 (b_eq hu4 (qF (c_mod (qF (c_mul (c_nQ (pv 3)) (c_nQ (pv 2)))) (qF (c_int)))) (qF (c_int)))))) (l_one (s_retF (c_bool))) (l_nil)) (l_one (s_retF (c_and (c_eq hu4 (qF (c_mod (c_nQ (pv 3)) (qF (c_int)))) (qF (c_int))) (c_one (c_eq hu4 (qF (c_mod (qF (c_mul (c_nQ (pv 2)) (qF (c_sub (qF (c_int)) (c_nQ (pv 4)))))) (qF (c_int)))) (qF (c_int)))))))))
noncomputable def g_rests_at : Sx := sCons (sPar2 5 6 false false (b2 (nQ 0) (nQ 1) aMul) (fCall (aCons (nF 0) (aNil)) F_factor_of)) (sCons (sFzA 2 (sSetO 2 (fLc (r2Of (kD (.int 1)) (b2 (nQ 5) (kD (.int 1)) aAdd)) (bNm 7) (oB (b2 (fCall (aCons (nF 7) (aCons (nF 1) (aNil))) nGcd) (kD (.int 1)) cEq)) (nF 7) [7]))) (sCons (sSetO 3 (kD (.dict []))) (sCons (sFor (r1Of (nQ 0)) (bNm 4) (sFor (sqOf (nF 2)) (bNm 7) (sSt 3 (b2 (b2 (nQ 7) (b2 (b2 (nQ 6) (nQ 4) aMul) (nQ 1) aMul) aAdd) (nQ 5) aMod) (kD (.bool true)) putK'))) (sRet (u1 (u1 (nQ 3) gList) gSortI)))))
noncomputable def h_rests_at : Sx := xsCons (xsPar2 5 6 false false (xb2 (xnQ 0) (xnQ 1) xMul) (xfCall (xaCons (xnF 0) (aNil)) F_factor_of)) (xsCons (sFzA 2 (xsSetO 2 (xfLc (xr2 (kD (.int 1)) (xb2 (xnQ 5) (kD (.int 1)) xAdd)) (xbNm 7) (xoB (xb2 (xfCall (xaCons (xnF 7) (xaCons (xnF 1) (aNil))) nGcd) (kD (.int 1)) xEq)) (xnF 7) [7]))) (xsCons (xsSetO 3 (kD (.dict []))) (xsCons (xsFor (xr1 (xnQ 0)) (xbNm 4) (xsFor (xsqOf (xnF 2)) (xbNm 7) (xsSt 3 (xb2 (xb2 (xnQ 7) (xb2 (xb2 (xnQ 6) (xnQ 4) xMul) (xnQ 1) xMul) xAdd) (xnQ 5) xMod) (kD (.bool true)) putK'))) (xsRet (xu1 (xu1 (xnQ 3) gList) gSortI)))))
noncomputable def F_rests_at : List PyData → Option PyData := xrunF 8 2 h_rests_at
theorem hx_rests_at : F_rests_at = runF 8 2 g_rests_at := by
  unfold F_rests_at
  rw [xrunF_eq]
  congr 1
  unfold h_rests_at g_rests_at
  simp only [xAdd_eq, xEq_eq, xMod_eq, xMul_eq, xaCons_eq, xb2_eq, xbNm_eq, xfCall_eq, xfLc_eq, xnF_eq, xnQ_eq, xoB_eq, xr1_eq, xr2_eq, xsCons_eq, xsFor_eq, xsPar2_eq, xsRet_eq, xsSetO_eq, xsSt_eq, xsqOf_eq, xu1_eq]
noncomputable def tab_rests_at : List (List Int × PyData) := [([Int.ofNat 2, Int.ofNat 1], .list [.int (Int.ofNat 0), .int (Int.ofNat 1)]), ([Int.ofNat 2, Int.ofNat 2], .list [.int (Int.ofNat 1), .int (Int.ofNat 3)]), ([Int.ofNat 2, Int.ofNat 3], .list [.int (Int.ofNat 1), .int (Int.ofNat 2), .int (Int.ofNat 4), .int (Int.ofNat 5)]), ([Int.ofNat 2, Int.ofNat 4], .list [.int (Int.ofNat 1), .int (Int.ofNat 3), .int (Int.ofNat 5), .int (Int.ofNat 7)]), ([Int.ofNat 2, Int.ofNat 6], .list [.int (Int.ofNat 1), .int (Int.ofNat 5), .int (Int.ofNat 7), .int (Int.ofNat 11)]), ([Int.ofNat 2, Int.ofNat 8], .list [.int (Int.ofNat 1), .int (Int.ofNat 3), .int (Int.ofNat 5), .int (Int.ofNat 7), .int (Int.ofNat 9), .int (Int.ofNat 11), .int (Int.ofNat 13), .int (Int.ofNat 15)]), ([Int.ofNat 2, Int.ofNat 12], .list [.int (Int.ofNat 1), .int (Int.ofNat 5), .int (Int.ofNat 7), .int (Int.ofNat 11), .int (Int.ofNat 13), .int (Int.ofNat 17), .int (Int.ofNat 19), .int (Int.ofNat 23)]), ([Int.ofNat 3, Int.ofNat 1], .list [.int (Int.ofNat 0), .int (Int.ofNat 1), .int (Int.ofNat 2)]), ([Int.ofNat 3, Int.ofNat 2], .list [.int (Int.ofNat 1), .int (Int.ofNat 3), .int (Int.ofNat 5)]), ([Int.ofNat 3, Int.ofNat 3], .list [.int (Int.ofNat 1), .int (Int.ofNat 2), .int (Int.ofNat 4), .int (Int.ofNat 5), .int (Int.ofNat 7), .int (Int.ofNat 8)]), ([Int.ofNat 4, Int.ofNat 1], .list [.int (Int.ofNat 0), .int (Int.ofNat 1), .int (Int.ofNat 2), .int (Int.ofNat 3)]), ([Int.ofNat 4, Int.ofNat 2], .list [.int (Int.ofNat 1), .int (Int.ofNat 3), .int (Int.ofNat 5), .int (Int.ofNat 7)]), ([Int.ofNat 4, Int.ofNat 3], .list [.int (Int.ofNat 1), .int (Int.ofNat 2), .int (Int.ofNat 4), .int (Int.ofNat 5), .int (Int.ofNat 7), .int (Int.ofNat 8), .int (Int.ofNat 10), .int (Int.ofNat 11)]), ([Int.ofNat 4, Int.ofNat 4], .list [.int (Int.ofNat 1), .int (Int.ofNat 3), .int (Int.ofNat 5), .int (Int.ofNat 7), .int (Int.ofNat 9), .int (Int.ofNat 11), .int (Int.ofNat 13), .int (Int.ofNat 15)]), ([Int.ofNat 4, Int.ofNat 6], .list [.int (Int.ofNat 1), .int (Int.ofNat 5), .int (Int.ofNat 7), .int (Int.ofNat 11), .int (Int.ofNat 13), .int (Int.ofNat 17), .int (Int.ofNat 19), .int (Int.ofNat 23)]), ([Int.ofNat 5, Int.ofNat 1], .list [.int (Int.ofNat 0), .int (Int.ofNat 1), .int (Int.ofNat 2), .int (Int.ofNat 3), .int (Int.ofNat 4)]), ([Int.ofNat 5, Int.ofNat 2], .list [.int (Int.ofNat 1), .int (Int.ofNat 3), .int (Int.ofNat 5), .int (Int.ofNat 7), .int (Int.ofNat 9)]), ([Int.ofNat 5, Int.ofNat 3], .list [.int (Int.ofNat 1), .int (Int.ofNat 2), .int (Int.ofNat 4), .int (Int.ofNat 5), .int (Int.ofNat 7), .int (Int.ofNat 8), .int (Int.ofNat 10), .int (Int.ofNat 11), .int (Int.ofNat 13), .int (Int.ofNat 14)]), ([Int.ofNat 5, Int.ofNat 5], .list [.int (Int.ofNat 1), .int (Int.ofNat 2), .int (Int.ofNat 3), .int (Int.ofNat 4), .int (Int.ofNat 6), .int (Int.ofNat 7), .int (Int.ofNat 8), .int (Int.ofNat 9), .int (Int.ofNat 11), .int (Int.ofNat 12), .int (Int.ofNat 13), .int (Int.ofNat 14), .int (Int.ofNat 16), .int (Int.ofNat 17), .int (Int.ofNat 18), .int (Int.ofNat 19), .int (Int.ofNat 21), .int (Int.ofNat 22), .int (Int.ofNat 23), .int (Int.ofNat 24)]), ([Int.ofNat 7, Int.ofNat 1], .list [.int (Int.ofNat 0), .int (Int.ofNat 1), .int (Int.ofNat 2), .int (Int.ofNat 3), .int (Int.ofNat 4), .int (Int.ofNat 5), .int (Int.ofNat 6)])]
noncomputable def T_rests_at : List PyData → Option PyData := xtab (look tab_rests_at) F_rests_at
theorem T_rests_at_eq : T_rests_at = F_rests_at := tab_eq (by kernel_rfl)
theorem sc_rests_at : FnScope ["m", "end", "besides", "found", "l", "wide", "factor", "a"] ["m", "end"] (defScope (top 74)) := ⟨rfl, rfl, rfl, by decide +kernel, rfl, by decide +kernel, by decide +kernel⟩
theorem cal_rests_at (M : Mg mg) (FD : FunD K "rests_at" "rests_at" (defArgs (top 74)) (defBody (top 74)) (defScope (top 74)) [] [] f fd) (hm : mg "rests_at" = some (.ref f)) (c_factor_of : CF P w K mg base 2 "factor_of" F_factor_of) (c_greatest_common : CF P w K mg base 1 "greatest_common" nGcd) : CF P w K mg base 3 "rests_at" F_rests_at := by
  rw [hx_rests_at]
  exact fn_F (g := g_rests_at) (k := 2) FD hm (FD.bindsN fun _ _ _ _ _ _ us hl => match us, hl with | [_, _], _ => rfl) sc_rests_at fun cdv A outer s H E hr =>
    have nd := sc_rests_at.nd
    have hu4 := room4 hr
    have hu5 := room5 hr
    l_cons (s_par2 (o1 := false) (o2 := false) (i := 5) (j := 6) rfl nd rfl rfl (by decide) rfl rfl (c_mul (c_nQ (pv 0)) (c_nQ (pv 1))) (c_call bkF c_factor_of hr (by decide) rfl (a_cons (c_nF (pv 0)) (a_nil))) rfl) (l_cons (s_fzA (s_lc (i := 2) (own := [("a", 7)]) rfl nd rfl rfl rfl (i_rg2 rfl M.b_range (qF (c_int)) (qF (c_add (c_nQ (pv 5)) (qF (c_int))))) (blkOk_by (N := ["m", "end", "besides", "found", "l", "wide", "factor", "a"]) (sc := defScope (top 74)) (by decide +kernel)) (fun _ _ _ _ _ => g_nm (pg_name nd rfl (by first | exact Or.inl rfl | exact Or.inr rfl) (i := 7))) (fun _ _ _ _ _ => t_one (b_eq hu4 (qF (c_call bkF c_greatest_common hr (by decide) rfl (a_cons (c_nF (pv 7)) (a_cons (c_nF (pv 1)) (a_nil))))) (qF (c_int)))) (fun _ _ _ _ _ => c_nF (pv 7)) (by decide))) (l_cons (s_setO (i := 3) nd rfl (Or.inl rfl) (c_dct0)) (l_cons (s_for PassesOwn.never rfl (i_rg1 rfl M.b_range (c_nQ (pv 0))) (g_nm (pg_name nd rfl (by first | exact Or.inl rfl | exact Or.inr rfl) (i := 4))) (l_one (s_for PassesOwn.never rfl (i_sq (c_nF (pv 2))) (g_nm (pg_name nd rfl (by first | exact Or.inl rfl | exact Or.inr rfl) (i := 7))) (l_one (s_dput hu4 (pv 3) (qF (c_mod (qF (c_add (c_nQ (pv 7)) (qF (c_mul (qF (c_mul (c_nQ (pv 6)) (c_nQ (pv 4)))) (c_nQ (pv 1)))))) (c_nQ (pv 5)))) (c_bool) rfl))))) (l_one (s_retF (fO (c_sortI rfl M.b_sorted (qO (c_list rfl rfl M.b_list (c_nQ (pv 3)))))))))))
noncomputable def g_common_steps : Sx := sCons (sSet 1 (kD (.int 1))) (sCons (sFor (sqOf (b2 (nQ 0) (kD (.int 1)) gIx)) (bTup 2 (bsCons (bNm 2) (bsCons (bNm 3) (bsNil)))) (sSet 1 (fCall (aCons (nF 1) (aCons (nF 2) (aNil))) F_least_multiple))) (sRet (nF 1)))
noncomputable def h_common_steps : Sx := xsCons (xsSet 1 (kD (.int 1))) (xsCons (xsFor (xsqOf (xb2 (xnQ 0) (kD (.int 1)) xIx)) (xbTup 2 (xbsCons (xbNm 2) (xbsCons (xbNm 3) (bsNil)))) (xsSet 1 (xfCall (xaCons (xnF 1) (xaCons (xnF 2) (aNil))) F_least_multiple))) (xsRet (xnF 1)))
noncomputable def F_common_steps : List PyData → Option PyData := xrunF 4 1 h_common_steps
theorem hx_common_steps : F_common_steps = runF 4 1 g_common_steps := by
  unfold F_common_steps
  rw [xrunF_eq]
  congr 1
  unfold h_common_steps g_common_steps
  simp only [xIx_eq, xaCons_eq, xb2_eq, xbNm_eq, xbTup_eq, xbsCons_eq, xfCall_eq, xnF_eq, xnQ_eq, xsCons_eq, xsFor_eq, xsRet_eq, xsSet_eq, xsqOf_eq]
theorem sc_common_steps : FnScope ["product", "found", "step", "power"] ["product"] (defScope (top 75)) := ⟨rfl, rfl, rfl, by decide +kernel, rfl, by decide +kernel, by decide +kernel⟩
theorem cal_common_steps (M : Mg mg) (FD : FunD K "common_steps" "common_steps" (defArgs (top 75)) (defBody (top 75)) (defScope (top 75)) [] [] f fd) (hm : mg "common_steps" = some (.ref f)) (c_least_multiple : CF P w K mg base 2 "least_multiple" F_least_multiple) : CF P w K mg base 3 "common_steps" F_common_steps := by
  rw [hx_common_steps]
  exact fn_F (g := g_common_steps) (k := 2) FD hm (FD.bindsN fun _ _ _ _ _ _ us hl => match us, hl with | [_], _ => rfl) sc_common_steps fun cdv A outer s H E hr =>
    have nd := sc_common_steps.nd
    have hu4 := room4 hr
    have hu5 := room5 hr
    l_cons (s_setF (i := 1) nd rfl (Or.inl rfl) (c_int)) (l_cons (s_for PassesOwn.never rfl (i_sq (c_ix hu4 (c_nQ (pv 0)) (qF (c_int)) (fun _ _ => rfl))) (g_tup rfl (gs_cons (g_nm (pg_name nd rfl (by first | exact Or.inl rfl | exact Or.inr rfl) (i := 2))) (gs_cons (g_nm (pg_name nd rfl (by first | exact Or.inl rfl | exact Or.inr rfl) (i := 3))) (gs_nil)))) (l_one (s_setF (i := 1) nd rfl (Or.inl rfl) (c_call bkF c_least_multiple hr (by decide) rfl (a_cons (c_nF (pv 1)) (a_cons (c_nF (pv 2)) (a_nil))))))) (l_one (s_retF (c_nF (pv 1)))))
noncomputable def g_numbers_of : Sx := sCons (sPar2 3 4 false true (fCall (aCons (nF 0) (aCons (nF 1) (aNil))) F_step_sums) (slL (fLst (aCons (kD (.int 1)) (aNil))) (noP) (soP (nQ 1)))) (sCons (sFor (r2Of (kD (.int 1)) (nQ 1)) (bNm 2) (sCons (sSet 5 (fDotK 3 4 2 6)) (sApp 4 (b2 (nQ 5) (nQ 2) aDiv)))) (sFz 4 (sRet (nF 4))))
noncomputable def h_numbers_of : Sx := xsCons (xsPar2 3 4 false true (xfCall (xaCons (xnF 0) (xaCons (xnF 1) (aNil))) F_step_sums) (slL (fLst (xaCons (kD (.int 1)) (aNil))) (noP) (soP (xnQ 1)))) (xsCons (xsFor (xr2 (kD (.int 1)) (xnQ 1)) (xbNm 2) (xsCons (xsSet 5 (xfDotK 3 4 2 6)) (xsApp 4 (xb2 (xnQ 5) (xnQ 2) xDiv)))) (xsFz 4 (xsRet (xnF 4))))
noncomputable def F_numbers_of : List PyData → Option PyData := xrunF 7 2 h_numbers_of
theorem hx_numbers_of : F_numbers_of = runF 7 2 g_numbers_of := by
  unfold F_numbers_of
  rw [xrunF_eq]
  congr 1
  unfold h_numbers_of g_numbers_of
  simp only [xDiv_eq, xaCons_eq, xb2_eq, xbNm_eq, xfCall_eq, xfDotK_eq, xnF_eq, xnQ_eq, xr2_eq, xsApp_eq, xsCons_eq, xsFor_eq, xsFz_eq, xsPar2_eq, xsRet_eq, xsSet_eq]
theorem sc_numbers_of : FnScope ["product", "many", "place", "sums", "found", "whole", "near"] ["product", "many"] (defScope (top 82)) := ⟨rfl, rfl, rfl, by decide +kernel, rfl, by decide +kernel, by decide +kernel⟩
theorem cal_numbers_of (M : Mg mg) (FD : FunD K "numbers_of" "numbers_of" (defArgs (top 82)) (defBody (top 82)) (defScope (top 82)) [] [] f fd) (hm : mg "numbers_of" = some (.ref f)) (c_step_sums : CF P w K mg base 2 "step_sums" F_step_sums) : CF P w K mg base 3 "numbers_of" F_numbers_of := by
  rw [hx_numbers_of]
  exact fn_F (g := g_numbers_of) (k := 2) FD hm (FD.bindsN fun _ _ _ _ _ _ us hl => match us, hl with | [_, _], _ => rfl) sc_numbers_of fun cdv A outer s H E hr =>
    have nd := sc_numbers_of.nd
    have hu4 := room4 hr
    have hu5 := room5 hr
    l_cons (s_parT2 (o1 := false) (o2 := true) (i := 3) (j := 4) (c_call bkF c_step_sums hr (by decide) rfl (a_cons (c_nF (pv 0)) (a_cons (c_nF (pv 1)) (a_nil)))) (c_slL (qO (c_lst (a_cons (c_int) (a_nil)))) (p_no) (p_so (c_nQ (pv 1)))) (pg_tup rfl (pgs_cons (pg_name nd rfl (Or.inr rfl) (i := 3)) (pgs_cons (pg_name nd rfl (Or.inr rfl) (i := 4)) (pgs_nil))))) (l_cons (s_for PassesOwn.never rfl (i_rg2 rfl M.b_range (qF (c_int)) (c_nQ (pv 1))) (g_nm (pg_name nd rfl (by first | exact Or.inl rfl | exact Or.inr rfl) (i := 2))) (l_cons (s_setF (i := 5) nd rfl (Or.inl rfl) (c_dot (c_sum rfl rfl M.b_sum (qO (c_lc (own := [("near", 6)]) rfl nd (i_rg2 rfl M.b_range (qF (c_int)) (qF (c_add (c_nQ (pv 2)) (qF (c_int))))) (blkOk_by (N := ["product", "many", "place", "sums", "found", "whole", "near"]) (sc := defScope (top 82)) (by decide +kernel)) (fun _ _ _ _ _ => g_nm (pg_name nd rfl (by first | exact Or.inl rfl | exact Or.inr rfl) (i := 6))) (fun _ _ _ _ _ => t_nil) (fun _ _ _ _ _ => c_mul (qF (c_ix hu4 (c_nQ (pv 3)) (c_nQ (pv 6)) (fun _ _ => rfl))) (qF (c_ix hu4 (c_nQ (pv 4)) (qF (c_sub (c_nQ (pv 2)) (c_nQ (pv 6)))) (fun _ _ => rfl)))) (by decide)))))) (l_one (s_app (pe_bm PySem.F.plainAttrs_list PySem.F.slot_list_append PySem.F.type_list_append mt_append (pv 4) (pa_cons (c_div (c_nQ (pv 5)) (c_nQ (pv 2))) pa_nil)))))) (l_one (s_fz 4 (s_retF (c_nF (pv 4))))))
noncomputable def g_rest_ratio : Sx := sRet (fCall (aCons (b2 (b2 (kD (.int k_ROUND)) (nQ 2) aMul) (fCall (aCons (nF 0) (aNil)) F_step_sum) aAdd) (aCons (b2 (kD (.int k_ROUND)) (nQ 1) aMul) (aNil))) F_made_ratio)
noncomputable def h_rest_ratio : Sx := xsRet (xfCall (xaCons (xb2 (xb2 (kD (.int k_ROUND)) (xnQ 2) xMul) (xfCall (xaCons (xnF 0) (aNil)) F_step_sum) xAdd) (xaCons (xb2 (kD (.int k_ROUND)) (xnQ 1) xMul) (aNil))) T_made_ratio)
noncomputable def F_rest_ratio : List PyData → Option PyData := xrunF 3 3 h_rest_ratio
theorem hx_rest_ratio : F_rest_ratio = runF 3 3 g_rest_ratio := by
  unfold F_rest_ratio
  rw [xrunF_eq]
  congr 1
  unfold h_rest_ratio g_rest_ratio
  simp only [T_made_ratio_eq, xAdd_eq, xMul_eq, xaCons_eq, xb2_eq, xfCall_eq, xnF_eq, xnQ_eq, xsRet_eq]
theorem sc_rest_ratio : FnScope ["product", "m", "t"] ["product", "m", "t"] (defScope (top 88)) := ⟨rfl, rfl, rfl, by decide +kernel, rfl, by decide +kernel, by decide +kernel⟩
theorem cal_rest_ratio (M : Mg mg) (FD : FunD K "rest_ratio" "rest_ratio" (defArgs (top 88)) (defBody (top 88)) (defScope (top 88)) [] [] f fd) (hm : mg "rest_ratio" = some (.ref f)) (c_made_ratio : CF P w K mg base 2 "made_ratio" F_made_ratio) (c_step_sum : CF P w K mg base 1 "step_sum" F_step_sum) : CF P w K mg base 3 "rest_ratio" F_rest_ratio := by
  rw [hx_rest_ratio]
  exact fn_F (g := g_rest_ratio) (k := 2) FD hm (FD.bindsN fun _ _ _ _ _ _ us hl => match us, hl with | [_, _, _], _ => rfl) sc_rest_ratio fun cdv A outer s H E hr =>
    have nd := sc_rest_ratio.nd
    have hu4 := room4 hr
    have hu5 := room5 hr
    l_one (s_retF (c_call bkF c_made_ratio hr (by decide) rfl (a_cons (c_add (qF (c_mul (qF (c_gint rfl M.c_ROUND)) (c_nQ (pv 2)))) (qF (c_call bkF c_step_sum hr (by decide) rfl (a_cons (c_nF (pv 0)) (a_nil))))) (a_cons (c_mul (qF (c_gint rfl M.c_ROUND)) (c_nQ (pv 1))) (a_nil)))))
noncomputable def g_is_beside : Sx := sCons (sPar2 5 6 false false (fCall (aCons (nF 0) (aCons (nF 1) (aNil))) F_quotient_powers) (kD (.int 1))) (sCons (sFor (ksOf (nF 5)) (bNm 3) (sIf (oB (b2 (b2 (b2 (nQ 5) (nQ 3) gIx) (kD (.int 2)) aMod) (kD (.int 0)) cNe)) (sSet 6 (b2 (nQ 6) (nQ 3) aMul)) (sNil))) (sCons (sIf (bOr (oB (b2 (u1 (fLc (ksOf (nF 5)) (bNm 3) (bYes) (b2 (nQ 5) (nQ 3) gIx) [3]) gSum) (kD (.int 0)) cNe)) (oB (b2 (fCall (aCons (nF 6) (aNil)) F_square_free_in) (kD (.int 1)) cNe))) (sRet (kD (.bool false))) (sNil)) (sCons (sSet 4 (u1 (fLc (ksOf (nF 5)) (bNm 3) (bYes) (b2 (b2 (nQ 2) (nQ 3) aDiv) (b2 (nQ 5) (nQ 3) gIx) aMul) [3]) gSum)) (sRet (vAnd (b2 (b2 (nQ 4) (kD (.int k_ROUND)) aMod) (kD (.int 0)) cEq) (b2 (b2 (u1 (fLc (ksOf (nF 5)) (bNm 3) (bYes) (b2 (nQ 3) (b2 (nQ 5) (nQ 3) gIx) aMul) [3]) gSum) (kD (.int k_ROUND)) aMod) (kD (.int 0)) cEq))))))
noncomputable def h_is_beside : Sx := xsCons (xsPar2 5 6 false false (xfCall (xaCons (xnF 0) (xaCons (xnF 1) (aNil))) F_quotient_powers) (kD (.int 1))) (xsCons (xsFor (ksOf (xnF 5)) (xbNm 3) (xsIf (xoB (xb2 (xb2 (xb2 (xnQ 5) (xnQ 3) xIx) (kD (.int 2)) xMod) (kD (.int 0)) xNe)) (xsSet 6 (xb2 (xnQ 6) (xnQ 3) xMul)) (sNil))) (xsCons (xsIf (xbOr (xoB (xb2 (xu1 (xfLc (ksOf (xnF 5)) (xbNm 3) (bYes) (xb2 (xnQ 5) (xnQ 3) xIx) [3]) gSum) (kD (.int 0)) xNe)) (xoB (xb2 (xfCall (xaCons (xnF 6) (aNil)) F_square_free_in) (kD (.int 1)) xNe))) (xsRet (kD (.bool false))) (sNil)) (xsCons (xsSet 4 (xu1 (xfLc (ksOf (xnF 5)) (xbNm 3) (bYes) (xb2 (xb2 (xnQ 2) (xnQ 3) xDiv) (xb2 (xnQ 5) (xnQ 3) xIx) xMul) [3]) gSum)) (xsRet (xvAnd (xb2 (xb2 (xnQ 4) (kD (.int k_ROUND)) xMod) (kD (.int 0)) xEq) (xb2 (xb2 (xu1 (xfLc (ksOf (xnF 5)) (xbNm 3) (bYes) (xb2 (xnQ 3) (xb2 (xnQ 5) (xnQ 3) xIx) xMul) [3]) gSum) (kD (.int k_ROUND)) xMod) (kD (.int 0)) xEq))))))
noncomputable def F_is_beside : List PyData → Option PyData := xrunF 7 3 h_is_beside
theorem hx_is_beside : F_is_beside = runF 7 3 g_is_beside := by
  unfold F_is_beside
  rw [xrunF_eq]
  congr 1
  unfold h_is_beside g_is_beside
  simp only [xDiv_eq, xEq_eq, xIx_eq, xMod_eq, xMul_eq, xNe_eq, xaCons_eq, xb2_eq, xbNm_eq, xbOr_eq, xfCall_eq, xfLc_eq, xnF_eq, xnQ_eq, xoB_eq, xsCons_eq, xsFor_eq, xsIf_eq, xsPar2_eq, xsRet_eq, xsSet_eq, xu1_eq, xvAnd_eq]
theorem sc_is_beside : FnScope ["one", "other", "level", "step", "turned", "powers", "sign"] ["one", "other", "level"] (defScope (top 92)) := ⟨rfl, rfl, rfl, by decide +kernel, rfl, by decide +kernel, by decide +kernel⟩
theorem cal_is_beside (M : Mg mg) (FD : FunD K "is_beside" "is_beside" (defArgs (top 92)) (defBody (top 92)) (defScope (top 92)) [] [] f fd) (hm : mg "is_beside" = some (.ref f)) (c_quotient_powers : CF P w K mg base 2 "quotient_powers" F_quotient_powers) (c_square_free_in : CF P w K mg base 2 "square_free_in" F_square_free_in) : CF P w K mg base 3 "is_beside" F_is_beside := by
  rw [hx_is_beside]
  exact fn_F (g := g_is_beside) (k := 2) FD hm (FD.bindsN fun _ _ _ _ _ _ us hl => match us, hl with | [_, _, _], _ => rfl) sc_is_beside fun cdv A outer s H E hr =>
    have nd := sc_is_beside.nd
    have hu4 := room4 hr
    have hu5 := room5 hr
    l_cons (s_parT2 (o1 := false) (o2 := false) (i := 5) (j := 6) (c_call bkF c_quotient_powers hr (by decide) rfl (a_cons (c_nF (pv 0)) (a_cons (c_nF (pv 1)) (a_nil)))) (c_int) (pg_tup rfl (pgs_cons (pg_name nd rfl (Or.inr rfl) (i := 5)) (pgs_cons (pg_name nd rfl (Or.inl rfl) (i := 6)) (pgs_nil))))) (l_cons (s_forK lkF PassesOwn.never rfl (pv 5) (g_nm (pg_name nd rfl (by first | exact Or.inl rfl | exact Or.inr rfl) (i := 3))) (l_one (s_if (b_ne hu4 (qF (c_mod (qF (c_ix hu4 (c_nQ (pv 5)) (c_nQ (pv 3)) (fun _ _ => rfl))) (qF (c_int)))) (qF (c_int))) (l_one (s_setF (i := 6) nd rfl (Or.inl rfl) (c_mul (c_nQ (pv 6)) (c_nQ (pv 3))))) (l_nil)))) (l_cons (s_if (b_w (w_or (b_ne hu4 (qF (c_sum rfl rfl M.b_sum (qO (c_lcK (own := [("step", 3)]) rfl nd (pv 5) (blkOk_by (N := ["one", "other", "level", "step", "turned", "powers", "sign"]) (sc := defScope (top 92)) (by decide +kernel)) (fun _ _ _ _ _ => g_nm (pg_name nd rfl (by first | exact Or.inl rfl | exact Or.inr rfl) (i := 3))) (fun _ _ _ _ _ => t_nil) (fun _ _ _ _ _ => c_ix hu4 (c_nQ (pv 5)) (c_nQ (pv 3)) (fun _ _ => rfl)) (by decide))))) (qF (c_int))) (w_or1 (b_ne hu4 (qF (c_call bkF c_square_free_in hr (by decide) rfl (a_cons (c_nF (pv 6)) (a_nil)))) (qF (c_int)))))) (l_one (s_retF (c_bool))) (l_nil)) (l_cons (s_setF (i := 4) nd rfl (Or.inl rfl) (c_sum rfl rfl M.b_sum (qO (c_lcK (own := [("step", 3)]) rfl nd (pv 5) (blkOk_by (N := ["one", "other", "level", "step", "turned", "powers", "sign"]) (sc := defScope (top 92)) (by decide +kernel)) (fun _ _ _ _ _ => g_nm (pg_name nd rfl (by first | exact Or.inl rfl | exact Or.inr rfl) (i := 3))) (fun _ _ _ _ _ => t_nil) (fun _ _ _ _ _ => c_mul (qF (c_div (c_nQ (pv 2)) (c_nQ (pv 3)))) (qF (c_ix hu4 (c_nQ (pv 5)) (c_nQ (pv 3)) (fun _ _ => rfl)))) (by decide))))) (l_one (s_retF (c_and (c_eq hu4 (qF (c_mod (c_nQ (pv 4)) (qF (c_gint rfl M.c_ROUND)))) (qF (c_int))) (c_one (c_eq hu4 (qF (c_mod (qF (c_sum rfl rfl M.b_sum (qO (c_lcK (own := [("step", 3)]) rfl nd (pv 5) (blkOk_by (N := ["one", "other", "level", "step", "turned", "powers", "sign"]) (sc := defScope (top 92)) (by decide +kernel)) (fun _ _ _ _ _ => g_nm (pg_name nd rfl (by first | exact Or.inl rfl | exact Or.inr rfl) (i := 3))) (fun _ _ _ _ _ => t_nil) (fun _ _ _ _ _ => c_mul (c_nQ (pv 3)) (qF (c_ix hu4 (c_nQ (pv 5)) (c_nQ (pv 3)) (fun _ _ => rfl)))) (by decide))))) (qF (c_gint rfl M.c_ROUND)))) (qF (c_int))))))))))
noncomputable def g_weighed_squares : Sx := sCons (sSet 3 (kD (.int 0))) (sCons (sFor (sqOf (b2 (nQ 0) (kD (.int 1)) gIx)) (bTup 2 (bsCons (bNm 4) (bsCons (bNm 5) (bsNil)))) (sCons (sSet 6 (fCall (aCons (nF 2) (aCons (nF 4) (aNil))) nGcd)) (sSet 3 (b2 (nQ 3) (b2 (b2 (b2 (nQ 6) (nQ 6) aMul) (nQ 5) aMul) (b2 (nQ 1) (nQ 4) aDiv) aMul) aAdd)))) (sRet (fCall (aCons (nF 3) (aCons (b2 (kD (.int k_ROUND)) (nQ 1) aMul) (aNil))) F_made_ratio)))
noncomputable def h_weighed_squares : Sx := xsCons (xsSet 3 (kD (.int 0))) (xsCons (xsFor (xsqOf (xb2 (xnQ 0) (kD (.int 1)) xIx)) (xbTup 2 (xbsCons (xbNm 4) (xbsCons (xbNm 5) (bsNil)))) (xsCons (xsSet 6 (xfCall (xaCons (xnF 2) (xaCons (xnF 4) (aNil))) nGcd)) (xsSet 3 (xb2 (xnQ 3) (xb2 (xb2 (xb2 (xnQ 6) (xnQ 6) xMul) (xnQ 5) xMul) (xb2 (xnQ 1) (xnQ 4) xDiv) xMul) xAdd)))) (xsRet (xfCall (xaCons (xnF 3) (xaCons (xb2 (kD (.int k_ROUND)) (xnQ 1) xMul) (aNil))) T_made_ratio)))
noncomputable def F_weighed_squares : List PyData → Option PyData := xrunF 7 3 h_weighed_squares
theorem hx_weighed_squares : F_weighed_squares = runF 7 3 g_weighed_squares := by
  unfold F_weighed_squares
  rw [xrunF_eq]
  congr 1
  unfold h_weighed_squares g_weighed_squares
  simp only [T_made_ratio_eq, xAdd_eq, xDiv_eq, xIx_eq, xMul_eq, xaCons_eq, xb2_eq, xbNm_eq, xbTup_eq, xbsCons_eq, xfCall_eq, xnF_eq, xnQ_eq, xsCons_eq, xsFor_eq, xsRet_eq, xsSet_eq, xsqOf_eq]
theorem sc_weighed_squares : FnScope ["one", "level", "end", "found", "step", "power", "common"] ["one", "level", "end"] (defScope (top 95)) := ⟨rfl, rfl, rfl, by decide +kernel, rfl, by decide +kernel, by decide +kernel⟩
theorem cal_weighed_squares (M : Mg mg) (FD : FunD K "weighed_squares" "weighed_squares" (defArgs (top 95)) (defBody (top 95)) (defScope (top 95)) [] [] f fd) (hm : mg "weighed_squares" = some (.ref f)) (c_greatest_common : CF P w K mg base 1 "greatest_common" nGcd) (c_made_ratio : CF P w K mg base 2 "made_ratio" F_made_ratio) : CF P w K mg base 3 "weighed_squares" F_weighed_squares := by
  rw [hx_weighed_squares]
  exact fn_F (g := g_weighed_squares) (k := 2) FD hm (FD.bindsN fun _ _ _ _ _ _ us hl => match us, hl with | [_, _, _], _ => rfl) sc_weighed_squares fun cdv A outer s H E hr =>
    have nd := sc_weighed_squares.nd
    have hu4 := room4 hr
    have hu5 := room5 hr
    l_cons (s_setF (i := 3) nd rfl (Or.inl rfl) (c_int)) (l_cons (s_for PassesOwn.never rfl (i_sq (c_ix hu4 (c_nQ (pv 0)) (qF (c_int)) (fun _ _ => rfl))) (g_tup rfl (gs_cons (g_nm (pg_name nd rfl (by first | exact Or.inl rfl | exact Or.inr rfl) (i := 4))) (gs_cons (g_nm (pg_name nd rfl (by first | exact Or.inl rfl | exact Or.inr rfl) (i := 5))) (gs_nil)))) (l_cons (s_setF (i := 6) nd rfl (Or.inl rfl) (c_call bkF c_greatest_common hr (by decide) rfl (a_cons (c_nF (pv 2)) (a_cons (c_nF (pv 4)) (a_nil))))) (l_one (s_setF (i := 3) nd rfl (Or.inl rfl) (c_add (c_nQ (pv 3)) (qF (c_mul (qF (c_mul (qF (c_mul (c_nQ (pv 6)) (c_nQ (pv 6)))) (c_nQ (pv 5)))) (qF (c_div (c_nQ (pv 1)) (c_nQ (pv 4))))))))))) (l_one (s_retF (c_call bkF c_made_ratio hr (by decide) rfl (a_cons (c_nF (pv 3)) (a_cons (c_mul (qF (c_gint rfl M.c_ROUND)) (c_nQ (pv 1))) (a_nil)))))))
noncomputable def g__law_plus : Sx := sRet (fCall (aCons (b2 (b2 (b2 (nQ 0) (kD (.int 0)) gIx) (b2 (nQ 1) (kD (.int 1)) gIx) aMul) (b2 (b2 (nQ 1) (kD (.int 0)) gIx) (b2 (nQ 0) (kD (.int 1)) gIx) aMul) aAdd) (aCons (b2 (b2 (nQ 0) (kD (.int 1)) gIx) (b2 (nQ 1) (kD (.int 1)) gIx) aMul) (aNil))) F__law_ratio)
noncomputable def h__law_plus : Sx := xsRet (xfCall (xaCons (xb2 (xb2 (xb2 (xnQ 0) (kD (.int 0)) xIx) (xb2 (xnQ 1) (kD (.int 1)) xIx) xMul) (xb2 (xb2 (xnQ 1) (kD (.int 0)) xIx) (xb2 (xnQ 0) (kD (.int 1)) xIx) xMul) xAdd) (xaCons (xb2 (xb2 (xnQ 0) (kD (.int 1)) xIx) (xb2 (xnQ 1) (kD (.int 1)) xIx) xMul) (aNil))) T__law_ratio)
noncomputable def F__law_plus : List PyData → Option PyData := xrunF 2 2 h__law_plus
theorem hx__law_plus : F__law_plus = runF 2 2 g__law_plus := by
  unfold F__law_plus
  rw [xrunF_eq]
  congr 1
  unfold h__law_plus g__law_plus
  simp only [T__law_ratio_eq, xAdd_eq, xIx_eq, xMul_eq, xaCons_eq, xb2_eq, xfCall_eq, xnQ_eq, xsRet_eq]
theorem law_plus_F (ds : List PyData) (r : PyData) (h : nPlus ds = some r) : F__law_plus ds = some r := by
  obtain ⟨a, b, c, d, rfl, hk⟩ := nPlus_some h
  unfold kPlus at hk
  rw [bI_eq] at hk
  split at hk
  · rename_i ok
    obtain ⟨h1, h2⟩ := Bool.and_eq_true_iff.mp ok
    obtain ⟨h2, h3⟩ := Bool.and_eq_true_iff.mp h2
    simp only [frI_eq] at hk
    have hr := law_ratio_F [.int (a * d + c * b), .int (b * d)] r hk
    rw [hx__law_plus]
    unfold runF g__law_plus
    show ((fCall _ _ _).map Out.rt).bind _ = _
    unfold fCall aCons
    have e1 : b2 (b2 (b2 (nQ 0) (kD (.int 0)) gIx) (b2 (nQ 1) (kD (.int 1)) gIx) aMul) (b2 (b2 (nQ 1) (kD (.int 0)) gIx) (b2 (nQ 0) (kD (.int 1)) gIx) aMul) aAdd (startN 2 [.tuple [.int a, .int b], .tuple [.int c, .int d]]) = some (.int (a * d + c * b)) := by
      show ((aMul (.int a) (.int d)).bind fun x => (aMul (.int c) (.int b)).bind fun y => aAdd x y) = _
      rw [aMul_is h1, aMul_is h2]
      rfl
    have e2 : b2 (b2 (nQ 0) (kD (.int 1)) gIx) (b2 (nQ 1) (kD (.int 1)) gIx) aMul (startN 2 [.tuple [.int a, .int b], .tuple [.int c, .int d]]) = some (.int (b * d)) := by
      show aMul (.int b) (.int d) = _
      exact aMul_is h3
    rw [e1]
    show ((((b2 _ _ aMul (startN 2 [.tuple [.int a, .int b], .tuple [.int c, .int d]])).bind fun d => _).bind fun ds => _).bind F__law_ratio |>.map Out.rt).bind _ = _
    rw [e2]
    show ((F__law_ratio [.int (a * d + c * b), .int (b * d)]).map Out.rt).bind _ = _
    rw [hr]
    rfl
  · cases hk
noncomputable def T__law_plus : List PyData → Option PyData := xtab (nPlus) F__law_plus
theorem T__law_plus_eq : T__law_plus = F__law_plus := xtab_of law_plus_F
theorem sc__law_plus : FnScope ["_law_one", "_law_other"] ["_law_one", "_law_other"] (defScope (top 117)) := ⟨rfl, rfl, rfl, by decide +kernel, rfl, by decide +kernel, by decide +kernel⟩
theorem cal__law_plus (M : Mg mg) (FD : FunD K "_law_plus" "_law_plus" (defArgs (top 117)) (defBody (top 117)) (defScope (top 117)) [] [] f fd) (hm : mg "_law_plus" = some (.ref f)) (c__law_ratio : CF P w K mg base 2 "_law_ratio" F__law_ratio) : CF P w K mg base 3 "_law_plus" F__law_plus := by
  rw [hx__law_plus]
  exact fn_F (g := g__law_plus) (k := 2) FD hm (FD.bindsN fun _ _ _ _ _ _ us hl => match us, hl with | [_, _], _ => rfl) sc__law_plus fun cdv A outer s H E hr =>
    have nd := sc__law_plus.nd
    have hu4 := room4 hr
    have hu5 := room5 hr
    l_one (s_retF (c_call bkF c__law_ratio hr (by decide) rfl (a_cons (c_add (qF (c_mul (qF (c_ix hu4 (c_nQ (pv 0)) (qF (c_int)) (fun _ _ => rfl))) (qF (c_ix hu4 (c_nQ (pv 1)) (qF (c_int)) (fun _ _ => rfl))))) (qF (c_mul (qF (c_ix hu4 (c_nQ (pv 1)) (qF (c_int)) (fun _ _ => rfl))) (qF (c_ix hu4 (c_nQ (pv 0)) (qF (c_int)) (fun _ _ => rfl)))))) (a_cons (c_mul (qF (c_ix hu4 (c_nQ (pv 0)) (qF (c_int)) (fun _ _ => rfl))) (qF (c_ix hu4 (c_nQ (pv 1)) (qF (c_int)) (fun _ _ => rfl)))) (a_nil)))))
noncomputable def g__law_x : Sx := sRet (fCall (aCons (b2 (b2 (kD (.int 24)) (nQ 2) aMul) (fCall (aCons (nF 0) (aNil)) F__law_step_sum) aAdd) (aCons (b2 (kD (.int 24)) (nQ 1) aMul) (aNil))) F__law_ratio)
noncomputable def h__law_x : Sx := xsRet (xfCall (xaCons (xb2 (xb2 (kD (.int 24)) (xnQ 2) xMul) (xfCall (xaCons (xnF 0) (aNil)) F__law_step_sum) xAdd) (xaCons (xb2 (kD (.int 24)) (xnQ 1) xMul) (aNil))) T__law_ratio)
noncomputable def F__law_x : List PyData → Option PyData := xrunF 3 3 h__law_x
theorem hx__law_x : F__law_x = runF 3 3 g__law_x := by
  unfold F__law_x
  rw [xrunF_eq]
  congr 1
  unfold h__law_x g__law_x
  simp only [T__law_ratio_eq, xAdd_eq, xMul_eq, xaCons_eq, xb2_eq, xfCall_eq, xnF_eq, xnQ_eq, xsRet_eq]
theorem sc__law_x : FnScope ["_law_powers", "_law_m", "_law_t"] ["_law_powers", "_law_m", "_law_t"] (defScope (top 129)) := ⟨rfl, rfl, rfl, by decide +kernel, rfl, by decide +kernel, by decide +kernel⟩
theorem cal__law_x (M : Mg mg) (FD : FunD K "_law_x" "_law_x" (defArgs (top 129)) (defBody (top 129)) (defScope (top 129)) [] [] f fd) (hm : mg "_law_x" = some (.ref f)) (c__law_ratio : CF P w K mg base 2 "_law_ratio" F__law_ratio) (c__law_step_sum : CF P w K mg base 1 "_law_step_sum" F__law_step_sum) : CF P w K mg base 3 "_law_x" F__law_x := by
  rw [hx__law_x]
  exact fn_F (g := g__law_x) (k := 2) FD hm (FD.bindsN fun _ _ _ _ _ _ us hl => match us, hl with | [_, _, _], _ => rfl) sc__law_x fun cdv A outer s H E hr =>
    have nd := sc__law_x.nd
    have hu4 := room4 hr
    have hu5 := room5 hr
    l_one (s_retF (c_call bkF c__law_ratio hr (by decide) rfl (a_cons (c_add (qF (c_mul (qF (c_int)) (c_nQ (pv 2)))) (qF (c_call bkF c__law_step_sum hr (by decide) rfl (a_cons (c_nF (pv 0)) (a_nil))))) (a_cons (c_mul (qF (c_int)) (c_nQ (pv 1))) (a_nil)))))
noncomputable def g__law_are_beside : Sx := sCons (sSetO 3 (kD (.dict []))) (sCons (sFor (sqOf (u1 (b2 (u1 (nQ 0) gList) (u1 (nQ 1) gList) aCatL) gSortS)) (bNm 4) (sSt 3 (nQ 4) (b2 (b3 (nQ 0) (nQ 4) (kD (.int 0)) gGet) (b3 (nQ 1) (nQ 4) (kD (.int 0)) gGet) aSub) putK')) (sFz 3 (sRet (vAnd (fCall (aCons (nF 3) (aCons (nF 2) (aNil))) F__law_fits) (b2 (fCall (aCons (nF 3) (aNil)) F__law_kind) (fTup (aCons (kD (.int 0)) (aCons (kD (.int 1)) (aNil)))) cEq)))))
noncomputable def h__law_are_beside : Sx := xsCons (xsSetO 3 (kD (.dict []))) (xsCons (xsFor (xsqOf (xu1 (xb2 (xu1 (xnQ 0) gList) (xu1 (xnQ 1) gList) aCatL) gSortS)) (xbNm 4) (xsSt 3 (xnQ 4) (xb2 (xb3 (xnQ 0) (xnQ 4) (kD (.int 0)) gGet) (xb3 (xnQ 1) (xnQ 4) (kD (.int 0)) gGet) xSub) putK')) (xsFz 3 (xsRet (xvAnd (xfCall (xaCons (xnF 3) (xaCons (xnF 2) (aNil))) F__law_fits) (xb2 (xfCall (xaCons (xnF 3) (aNil)) F__law_kind) (xfTup (xaCons (kD (.int 0)) (xaCons (kD (.int 1)) (aNil)))) xEq)))))
noncomputable def F__law_are_beside : List PyData → Option PyData := xrunF 5 3 h__law_are_beside
theorem hx__law_are_beside : F__law_are_beside = runF 5 3 g__law_are_beside := by
  unfold F__law_are_beside
  rw [xrunF_eq]
  congr 1
  unfold h__law_are_beside g__law_are_beside
  simp only [xEq_eq, xSub_eq, xaCons_eq, xb2_eq, xb3_eq, xbNm_eq, xfCall_eq, xfTup_eq, xnF_eq, xnQ_eq, xsCons_eq, xsFor_eq, xsFz_eq, xsRet_eq, xsSetO_eq, xsSt_eq, xsqOf_eq, xu1_eq, xvAnd_eq]
theorem sc__law_are_beside : FnScope ["_law_one", "_law_other", "_law_level", "_law_late", "_law_step"] ["_law_one", "_law_other", "_law_level"] (defScope (top 133)) := ⟨rfl, rfl, rfl, by decide +kernel, rfl, by decide +kernel, by decide +kernel⟩
noncomputable def g_want_product : Sx := sCons (sIf (bNot (oB (fCall (aCons (nF 0) (aNil)) F_is_product_value))) (sNo) (sNil)) (sRet (nF 0))
noncomputable def h_want_product : Sx := xsCons (xsIf (xbNot (xoB (xfCall (xaCons (xnF 0) (aNil)) F_is_product_value))) (sNo) (sNil)) (xsRet (xnF 0))
noncomputable def F_want_product : List PyData → Option PyData := xrunF 1 1 h_want_product
theorem hx_want_product : F_want_product = runF 1 1 g_want_product := by
  unfold F_want_product
  rw [xrunF_eq]
  congr 1
  unfold h_want_product g_want_product
  simp only [xaCons_eq, xbNot_eq, xfCall_eq, xnF_eq, xoB_eq, xsCons_eq, xsIf_eq, xsRet_eq]
theorem sc_want_product : FnScope ["value"] ["value"] (defScope (top 34)) := ⟨rfl, rfl, rfl, by decide +kernel, rfl, by decide +kernel, by decide +kernel⟩
theorem cal_want_product (M : Mg mg) (FD : FunD K "want_product" "want_product" (defArgs (top 34)) (defBody (top 34)) (defScope (top 34)) [] [] f fd) (hm : mg "want_product" = some (.ref f)) (c_is_product_value : CF P w K mg base 3 "is_product_value" F_is_product_value) : CF P w K mg base 4 "want_product" F_want_product := by
  rw [hx_want_product]
  exact fn_F (g := g_want_product) (k := 3) FD hm (FD.bindsN fun _ _ _ _ _ _ us hl => match us, hl with | [_], _ => rfl) sc_want_product fun cdv A outer s H E hr =>
    have nd := sc_want_product.nd
    have hu4 := room4 hr
    have hu5 := room5 hr
    l_cons (s_if (b_not (b_val (c_call bkF c_is_product_value hr (by decide) rfl (a_cons (c_nF (pv 0)) (a_nil))))) (l_no) (l_nil)) (l_one (s_retF (c_nF (pv 0))))
noncomputable def g_first_unserved : Sx := sCons (sSet 4 (fCall (aCons (nF 1) (aNil)) F_factor_of)) (sCons (sIf (bNot (oB (u1 (fLc (sqOf (fCall (aCons (nF 1) (aNil)) F_primes_in)) (bTup 2 (bsCons (bNm 5) (bsCons (bNm 6) (bsNil)))) (bYes) (b2 (b2 (nQ 3) (nQ 5) aMod) (kD (.int 0)) cEq) [5, 6]) gAll))) (sRet (kD (.int 1))) (sNil)) (sCons (sIf (bNot (oB (fCall (aCons (nF 0) (aCons (nF 1) (aCons (nF 3) (aNil)))) F_are_steps_within))) (sRet (kD (.int 2))) (sNil)) (sCons (sIf (oB (b2 (b2 (b2 (b2 (nQ 4) (nQ 3) aMul) (fCall (aCons (nF 0) (aCons (nF 1) (aCons (nF 3) (aNil)))) F_weighed_steps) aMul) (kD (.int 24)) aMod) (kD (.int 0)) cNe)) (sRet (kD (.int 3))) (sNil)) (sCons (sIf (oB (b2 (b2 (b2 (b2 (nQ 4) (nQ 3) aMul) (fCall (aCons (nF 0) (aNil)) F_power_sum) aMul) (kD (.int 8)) aMod) (kD (.int 0)) cNe)) (sRet (kD (.int 4))) (sNil)) (sCons (sIf (bNot (oB (fCall (aCons (nF 0) (aCons (nF 1) (aCons (nF 2) (aCons (nF 3) (aNil))))) F_is_met_by))) (sRet (kD (.int 5))) (sNil)) (sRet (iF (oB (fCall (aCons (nF 0) (aCons (nF 1) (aCons (nF 3) (aNil)))) F_is_even_right)) (kD .none) (kD (.int 6)))))))))
noncomputable def h_first_unserved : Sx := xsCons (xsSet 4 (xfCall (xaCons (xnF 1) (aNil)) F_factor_of)) (xsCons (xsIf (xbNot (xoB (xu1 (xfLc (xsqOf (xfCall (xaCons (xnF 1) (aNil)) T_primes_in)) (xbTup 2 (xbsCons (xbNm 5) (xbsCons (xbNm 6) (bsNil)))) (bYes) (xb2 (xb2 (xnQ 3) (xnQ 5) xMod) (kD (.int 0)) xEq) [5, 6]) gAll))) (xsRet (kD (.int 1))) (sNil)) (xsCons (xsIf (xbNot (xoB (xfCall (xaCons (xnF 0) (xaCons (xnF 1) (xaCons (xnF 3) (aNil)))) F_are_steps_within))) (xsRet (kD (.int 2))) (sNil)) (xsCons (xsIf (xoB (xb2 (xb2 (xb2 (xb2 (xnQ 4) (xnQ 3) xMul) (xfCall (xaCons (xnF 0) (xaCons (xnF 1) (xaCons (xnF 3) (aNil)))) F_weighed_steps) xMul) (kD (.int 24)) xMod) (kD (.int 0)) xNe)) (xsRet (kD (.int 3))) (sNil)) (xsCons (xsIf (xoB (xb2 (xb2 (xb2 (xb2 (xnQ 4) (xnQ 3) xMul) (xfCall (xaCons (xnF 0) (aNil)) F_power_sum) xMul) (kD (.int 8)) xMod) (kD (.int 0)) xNe)) (xsRet (kD (.int 4))) (sNil)) (xsCons (xsIf (xbNot (xoB (xfCall (xaCons (xnF 0) (xaCons (xnF 1) (xaCons (xnF 2) (xaCons (xnF 3) (aNil))))) F_is_met_by))) (xsRet (kD (.int 5))) (sNil)) (xsRet (xiF (xoB (xfCall (xaCons (xnF 0) (xaCons (xnF 1) (xaCons (xnF 3) (aNil)))) F_is_even_right)) (kD .none) (kD (.int 6)))))))))
noncomputable def F_first_unserved : List PyData → Option PyData := xrunF 7 4 h_first_unserved
theorem hx_first_unserved : F_first_unserved = runF 7 4 g_first_unserved := by
  unfold F_first_unserved
  rw [xrunF_eq]
  congr 1
  unfold h_first_unserved g_first_unserved
  simp only [T_primes_in_eq, xEq_eq, xMod_eq, xMul_eq, xNe_eq, xaCons_eq, xb2_eq, xbNm_eq, xbNot_eq, xbTup_eq, xbsCons_eq, xfCall_eq, xfLc_eq, xiF_eq, xnF_eq, xnQ_eq, xoB_eq, xsCons_eq, xsIf_eq, xsRet_eq, xsSet_eq, xsqOf_eq, xu1_eq]
theorem sc_first_unserved : FnScope ["product", "m", "t", "level", "factor", "prime", "many"] ["product", "m", "t", "level"] (defScope (top 72)) := ⟨rfl, rfl, rfl, by decide +kernel, rfl, by decide +kernel, by decide +kernel⟩
theorem cal_first_unserved (M : Mg mg) (FD : FunD K "first_unserved" "first_unserved" (defArgs (top 72)) (defBody (top 72)) (defScope (top 72)) [] [] f fd) (hm : mg "first_unserved" = some (.ref f)) (c_are_steps_within : CF P w K mg base 1 "are_steps_within" F_are_steps_within) (c_factor_of : CF P w K mg base 2 "factor_of" F_factor_of) (c_is_even_right : CF P w K mg base 3 "is_even_right" F_is_even_right) (c_is_met_by : CF P w K mg base 3 "is_met_by" F_is_met_by) (c_power_sum : CF P w K mg base 1 "power_sum" F_power_sum) (c_primes_in : CF P w K mg base 1 "primes_in" F_primes_in) (c_weighed_steps : CF P w K mg base 1 "weighed_steps" F_weighed_steps) : CF P w K mg base 4 "first_unserved" F_first_unserved := by
  rw [hx_first_unserved]
  exact fn_F (g := g_first_unserved) (k := 3) FD hm (FD.bindsN fun _ _ _ _ _ _ us hl => match us, hl with | [_, _, _, _], _ => rfl) sc_first_unserved fun cdv A outer s H E hr =>
    have nd := sc_first_unserved.nd
    have hu4 := room4 hr
    have hu5 := room5 hr
    l_cons (s_setF (i := 4) nd rfl (Or.inl rfl) (c_call bkF c_factor_of hr (by decide) rfl (a_cons (c_nF (pv 1)) (a_nil)))) (l_cons (s_if (b_not (b_val (c_all rfl rfl M.b_all (qO (c_lc (own := [("prime", 5), ("many", 6)]) rfl nd (i_sq (c_call bkF c_primes_in hr (by decide) rfl (a_cons (c_nF (pv 1)) (a_nil)))) (blkOk_by (N := ["product", "m", "t", "level", "factor", "prime", "many"]) (sc := defScope (top 72)) (by decide +kernel)) (fun _ _ _ _ _ => g_tup rfl (gs_cons (g_nm (pg_name nd rfl (by first | exact Or.inl rfl | exact Or.inr rfl) (i := 5))) (gs_cons (g_nm (pg_name nd rfl (by first | exact Or.inl rfl | exact Or.inr rfl) (i := 6))) (gs_nil)))) (fun _ _ _ _ _ => t_nil) (fun _ _ _ _ _ => c_eq hu4 (qF (c_mod (c_nQ (pv 3)) (c_nQ (pv 5)))) (qF (c_int))) (by decide)))))) (l_one (s_retF (c_int))) (l_nil)) (l_cons (s_if (b_not (b_val (c_call bkF c_are_steps_within hr (by decide) rfl (a_cons (c_nF (pv 0)) (a_cons (c_nF (pv 1)) (a_cons (c_nF (pv 3)) (a_nil))))))) (l_one (s_retF (c_int))) (l_nil)) (l_cons (s_if (b_ne hu4 (qF (c_mod (qF (c_mul (qF (c_mul (c_nQ (pv 4)) (c_nQ (pv 3)))) (qF (c_call bkF c_weighed_steps hr (by decide) rfl (a_cons (c_nF (pv 0)) (a_cons (c_nF (pv 1)) (a_cons (c_nF (pv 3)) (a_nil)))))))) (qF (c_int)))) (qF (c_int))) (l_one (s_retF (c_int))) (l_nil)) (l_cons (s_if (b_ne hu4 (qF (c_mod (qF (c_mul (qF (c_mul (c_nQ (pv 4)) (c_nQ (pv 3)))) (qF (c_call bkF c_power_sum hr (by decide) rfl (a_cons (c_nF (pv 0)) (a_nil)))))) (qF (c_int)))) (qF (c_int))) (l_one (s_retF (c_int))) (l_nil)) (l_cons (s_if (b_not (b_val (c_call bkF c_is_met_by hr (by decide) rfl (a_cons (c_nF (pv 0)) (a_cons (c_nF (pv 1)) (a_cons (c_nF (pv 2)) (a_cons (c_nF (pv 3)) (a_nil)))))))) (l_one (s_retF (c_int))) (l_nil)) (l_one (s_retF (c_if (b_val (c_call bkF c_is_even_right hr (by decide) rfl (a_cons (c_nF (pv 0)) (a_cons (c_nF (pv 1)) (a_cons (c_nF (pv 3)) (a_nil)))))) (c_none) (c_int)))))))))
end
end Q7

-- part Rh
set_option Elab.async false
set_option linter.all false
set_option maxRecDepth 100000
set_option maxHeartbeats 0
namespace Q7
open PySem PySem.Spec PyProof.Rows L2
open C8 (Cal pe_c)
section
variable {P : Program} {w : World} {K : PySem.W.Frag} {mg : Str → Option Value} {base : Heap} {f : Addr} {fd : FuncData}
noncomputable def g_low_of : Sx := sCons (sPar2 5 6 false false (b2 (nQ 1) (nQ 2) aMul) (fCall (aCons (nF 0) (aNil)) F_common_steps)) (sCons (sSet 3 (fLc (sqOf (b2 (nQ 0) (kD (.int 1)) gIx)) (bTup 2 (bsCons (bNm 8) (bsCons (bNm 9) (bsNil)))) (bYes) (fTup (aCons (nF 8) (aCons (b2 (nQ 9) (b2 (nQ 6) (nQ 8) aDiv) aMul) (aNil)))) [8, 9])) (sCons (sFzA 4 (sSetO 4 (fLc (sqOf (fCall (aCons (nF 1) (aCons (nF 2) (aNil))) F_rests_at)) (bNm 7) (bYes) (u1 (fLc (sqOf (nF 3)) (bTup 2 (bsCons (bNm 8) (bsCons (bNm 10) (bsNil)))) (bYes) (b2 (nQ 10) (b2 (fCall (aCons (b2 (nQ 8) (nQ 7) aMul) (aCons (nF 5) (aNil))) nGcd) (kD (.int 2)) aPow) aMul) [8, 10]) gSum) [7]))) (sRet (fCall (aCons (u1 (nQ 4) gMin) (aCons (b2 (b2 (kD (.int 24)) (nQ 1) aMul) (nQ 6) aMul) (aNil))) F_made_ratio))))
noncomputable def h_low_of : Sx := xsCons (xsPar2 5 6 false false (xb2 (xnQ 1) (xnQ 2) xMul) (xfCall (xaCons (xnF 0) (aNil)) F_common_steps)) (xsCons (xsSet 3 (xfLc (xsqOf (xb2 (xnQ 0) (kD (.int 1)) xIx)) (xbTup 2 (xbsCons (xbNm 8) (xbsCons (xbNm 9) (bsNil)))) (bYes) (xfTup (xaCons (xnF 8) (xaCons (xb2 (xnQ 9) (xb2 (xnQ 6) (xnQ 8) xDiv) xMul) (aNil)))) [8, 9])) (xsCons (sFzA 4 (xsSetO 4 (xfLc (xsqOf (xfCall (xaCons (xnF 1) (xaCons (xnF 2) (aNil))) T_rests_at)) (xbNm 7) (bYes) (xu1 (xfLc (xsqOf (xnF 3)) (xbTup 2 (xbsCons (xbNm 8) (xbsCons (xbNm 10) (bsNil)))) (bYes) (xb2 (xnQ 10) (xb2 (xfCall (xaCons (xb2 (xnQ 8) (xnQ 7) xMul) (xaCons (xnF 5) (aNil))) nGcd) (kD (.int 2)) aPow) xMul) [8, 10]) gSum) [7]))) (xsRet (xfCall (xaCons (xu1 (xnQ 4) gMin) (xaCons (xb2 (xb2 (kD (.int 24)) (xnQ 1) xMul) (xnQ 6) xMul) (aNil))) T_made_ratio))))
noncomputable def F_low_of : List PyData → Option PyData := xrunF 11 3 h_low_of
theorem hx_low_of : F_low_of = runF 11 3 g_low_of := by
  unfold F_low_of
  rw [xrunF_eq]
  congr 1
  unfold h_low_of g_low_of
  simp only [T_made_ratio_eq, T_rests_at_eq, xDiv_eq, xIx_eq, xMul_eq, xaCons_eq, xb2_eq, xbNm_eq, xbTup_eq, xbsCons_eq, xfCall_eq, xfLc_eq, xfTup_eq, xnF_eq, xnQ_eq, xsCons_eq, xsPar2_eq, xsRet_eq, xsSet_eq, xsSetO_eq, xsqOf_eq, xu1_eq]
theorem sc_low_of : FnScope ["product", "m", "end", "weights", "sums", "wide", "common", "rest", "step", "power", "weight"] ["product", "m", "end"] (defScope (top 76)) := ⟨rfl, rfl, rfl, by decide +kernel, rfl, by decide +kernel, by decide +kernel⟩
theorem cal_low_of (M : Mg mg) (FD : FunD K "low_of" "low_of" (defArgs (top 76)) (defBody (top 76)) (defScope (top 76)) [] [] f fd) (hm : mg "low_of" = some (.ref f)) (c_common_steps : CF P w K mg base 3 "common_steps" F_common_steps) (c_greatest_common : CF P w K mg base 1 "greatest_common" nGcd) (c_made_ratio : CF P w K mg base 2 "made_ratio" F_made_ratio) (c_rests_at : CF P w K mg base 3 "rests_at" F_rests_at) : CF P w K mg base 4 "low_of" F_low_of := by
  rw [hx_low_of]
  exact fn_F (g := g_low_of) (k := 3) FD hm (FD.bindsN fun _ _ _ _ _ _ us hl => match us, hl with | [_, _, _], _ => rfl) sc_low_of fun cdv A outer s H E hr =>
    have nd := sc_low_of.nd
    have hu4 := room4 hr
    have hu5 := room5 hr
    l_cons (s_parT2 (o1 := false) (o2 := false) (i := 5) (j := 6) (c_mul (c_nQ (pv 1)) (c_nQ (pv 2))) (c_call bkF c_common_steps hr (by decide) rfl (a_cons (c_nF (pv 0)) (a_nil))) (pg_tup rfl (pgs_cons (pg_name nd rfl (Or.inr rfl) (i := 5)) (pgs_cons (pg_name nd rfl (Or.inr rfl) (i := 6)) (pgs_nil))))) (l_cons (s_setF (i := 3) nd rfl (Or.inr rfl) (fO (c_lc (own := [("step", 8), ("power", 9)]) rfl nd (i_sq (c_ix hu4 (c_nQ (pv 0)) (qF (c_int)) (fun _ _ => rfl))) (blkOk_by (N := ["product", "m", "end", "weights", "sums", "wide", "common", "rest", "step", "power", "weight"]) (sc := defScope (top 76)) (by decide +kernel)) (fun _ _ _ _ _ => g_tup rfl (gs_cons (g_nm (pg_name nd rfl (by first | exact Or.inl rfl | exact Or.inr rfl) (i := 8))) (gs_cons (g_nm (pg_name nd rfl (by first | exact Or.inl rfl | exact Or.inr rfl) (i := 9))) (gs_nil)))) (fun _ _ _ _ _ => t_nil) (fun _ _ _ _ _ => c_tup (a_cons (c_nF (pv 8)) (a_cons (c_mul (c_nQ (pv 9)) (qF (c_div (c_nQ (pv 6)) (c_nQ (pv 8))))) (a_nil)))) (by decide)))) (l_cons (s_fzA (s_lc (i := 4) (own := [("rest", 7)]) rfl nd rfl rfl rfl (i_sq (c_call bkF c_rests_at hr (by decide) rfl (a_cons (c_nF (pv 1)) (a_cons (c_nF (pv 2)) (a_nil))))) (blkOk_by (N := ["product", "m", "end", "weights", "sums", "wide", "common", "rest", "step", "power", "weight"]) (sc := defScope (top 76)) (by decide +kernel)) (fun _ _ _ _ _ => g_nm (pg_name nd rfl (by first | exact Or.inl rfl | exact Or.inr rfl) (i := 7))) (fun _ _ _ _ _ => t_nil) (fun _ _ _ _ _ => c_sum rfl rfl M.b_sum (qO (c_lc (own := [("step", 8), ("weight", 10)]) rfl nd (i_sq (c_nF (pv 3))) (blkOk_by (by kernel_rfl)) (fun _ _ _ _ _ => g_tup rfl (gs_cons (g_nm (pg_name nd rfl (by first | exact Or.inl rfl | exact Or.inr rfl) (i := 8))) (gs_cons (g_nm (pg_name nd rfl (by first | exact Or.inl rfl | exact Or.inr rfl) (i := 10))) (gs_nil)))) (fun _ _ _ _ _ => t_nil) (fun _ _ _ _ _ => c_mul (c_nQ (pv 10)) (qF (c_pow (qF (c_call bkF c_greatest_common hr (by decide) rfl (a_cons (c_mul (c_nQ (pv 8)) (c_nQ (pv 7))) (a_cons (c_nF (pv 5)) (a_nil))))) (qF (c_int))))) (by decide)))) (by decide))) (l_one (s_retF (c_call bkF c_made_ratio hr (by decide) rfl (a_cons (c_min rfl rfl M.b_min (c_nQ (pv 4))) (a_cons (c_mul (qF (c_mul (qF (c_int)) (c_nQ (pv 1)))) (c_nQ (pv 6))) (a_nil))))))))
noncomputable def g_place_of_term : Sx := sCons (sSet 4 (fCall (aCons (fCall (aCons (nF 3) (aNil)) F_shift_by) (aCons (fCall (aCons (nF 0) (aCons (nF 1) (aCons (nF 2) (aNil)))) F_rest_ratio) (aNil))) F_difference_of)) (sRet (iF (bAnd (oB (fCall (aCons (nF 4) (aNil)) F_is_whole_ratio)) (oB (ch3 (kD (.int 0)) (b2 (nQ 4) (kD (.int 0)) gIx) (kD (.int k_MOST_PLACE)) pLe pLe))) (b2 (nQ 4) (kD (.int 0)) gIx) (kD .none)))
noncomputable def h_place_of_term : Sx := xsCons (xsSet 4 (xfCall (xaCons (xfCall (xaCons (xnF 3) (aNil)) F_shift_by) (xaCons (xfCall (xaCons (xnF 0) (xaCons (xnF 1) (xaCons (xnF 2) (aNil)))) F_rest_ratio) (aNil))) F_difference_of)) (xsRet (xiF (xbAnd (xoB (xfCall (xaCons (xnF 4) (aNil)) F_is_whole_ratio)) (xoB (ch3 (kD (.int 0)) (xb2 (xnQ 4) (kD (.int 0)) xIx) (kD (.int k_MOST_PLACE)) pLe pLe))) (xb2 (xnQ 4) (kD (.int 0)) xIx) (kD .none)))
noncomputable def F_place_of_term : List PyData → Option PyData := xrunF 5 4 h_place_of_term
theorem hx_place_of_term : F_place_of_term = runF 5 4 g_place_of_term := by
  unfold F_place_of_term
  rw [xrunF_eq]
  congr 1
  unfold h_place_of_term g_place_of_term
  simp only [xIx_eq, xaCons_eq, xb2_eq, xbAnd_eq, xfCall_eq, xiF_eq, xnF_eq, xnQ_eq, xoB_eq, xsCons_eq, xsRet_eq, xsSet_eq]
theorem sc_place_of_term : FnScope ["product", "m", "t", "one", "found"] ["product", "m", "t", "one"] (defScope (top 89)) := ⟨rfl, rfl, rfl, by decide +kernel, rfl, by decide +kernel, by decide +kernel⟩
theorem cal_place_of_term (M : Mg mg) (FD : FunD K "place_of_term" "place_of_term" (defArgs (top 89)) (defBody (top 89)) (defScope (top 89)) [] [] f fd) (hm : mg "place_of_term" = some (.ref f)) (c_difference_of : CF P w K mg base 3 "difference_of" F_difference_of) (c_is_whole_ratio : CF P w K mg base 1 "is_whole_ratio" F_is_whole_ratio) (c_rest_ratio : CF P w K mg base 3 "rest_ratio" F_rest_ratio) (c_shift_by : CF P w K mg base 3 "shift_by" F_shift_by) : CF P w K mg base 4 "place_of_term" F_place_of_term := by
  rw [hx_place_of_term]
  exact fn_F (g := g_place_of_term) (k := 3) FD hm (FD.bindsN fun _ _ _ _ _ _ us hl => match us, hl with | [_, _, _, _], _ => rfl) sc_place_of_term fun cdv A outer s H E hr =>
    have nd := sc_place_of_term.nd
    have hu4 := room4 hr
    have hu5 := room5 hr
    l_cons (s_setF (i := 4) nd rfl (Or.inl rfl) (c_call bkF c_difference_of hr (by decide) rfl (a_cons (c_call bkF c_shift_by hr (by decide) rfl (a_cons (c_nF (pv 3)) (a_nil))) (a_cons (c_call bkF c_rest_ratio hr (by decide) rfl (a_cons (c_nF (pv 0)) (a_cons (c_nF (pv 1)) (a_cons (c_nF (pv 2)) (a_nil))))) (a_nil))))) (l_one (s_retF (c_if (b_w (w_and (b_val (c_call bkF c_is_whole_ratio hr (by decide) rfl (a_cons (c_nF (pv 4)) (a_nil)))) (w_and1 (b_ch op_le op_le (qF (c_int)) (qF (c_ix hu4 (c_nQ (pv 4)) (qF (c_int)) (fun _ _ => rfl))) (qF (c_gint rfl M.c_MOST_PLACE)))))) (c_ix hu4 (c_nQ (pv 4)) (qF (c_int)) (fun _ _ => rfl)) (c_none))))
noncomputable def g_left_row : Sx := sCons (sSet 4 (fCall (aCons (nF 0) (aCons (b2 (b2 (nQ 1) (nQ 3) aMul) (nQ 2) aAdd) (aNil))) F_numbers_of)) (sRet (fLc (r1Of (nQ 3)) (bNm 5) (bYes) (b2 (nQ 4) (b2 (b2 (nQ 1) (nQ 5) aMul) (nQ 2) aAdd) gIx) [5]))
noncomputable def h_left_row : Sx := xsCons (xsSet 4 (xfCall (xaCons (xnF 0) (xaCons (xb2 (xb2 (xnQ 1) (xnQ 3) xMul) (xnQ 2) xAdd) (aNil))) F_numbers_of)) (xsRet (xfLc (xr1 (xnQ 3)) (xbNm 5) (bYes) (xb2 (xnQ 4) (xb2 (xb2 (xnQ 1) (xnQ 5) xMul) (xnQ 2) xAdd) xIx) [5]))
noncomputable def F_left_row : List PyData → Option PyData := xrunO 6 4 h_left_row
theorem hx_left_row : F_left_row = runO 6 4 g_left_row := by
  unfold F_left_row
  rw [xrunO_eq]
  congr 1
  unfold h_left_row g_left_row
  simp only [xAdd_eq, xIx_eq, xMul_eq, xaCons_eq, xb2_eq, xbNm_eq, xfCall_eq, xfLc_eq, xnF_eq, xnQ_eq, xr1_eq, xsCons_eq, xsRet_eq, xsSet_eq]
theorem sc_left_row : FnScope ["product", "m", "t", "many", "row", "n"] ["product", "m", "t", "many"] (defScope (top 98)) := ⟨rfl, rfl, rfl, by decide +kernel, rfl, by decide +kernel, by decide +kernel⟩
theorem cal_left_row (M : Mg mg) (FD : FunD K "left_row" "left_row" (defArgs (top 98)) (defBody (top 98)) (defScope (top 98)) [] [] f fd) (hm : mg "left_row" = some (.ref f)) (c_numbers_of : CF P w K mg base 3 "numbers_of" F_numbers_of) : CO P w K mg base 4 "left_row" F_left_row := by
  rw [hx_left_row]
  exact fn_O (g := g_left_row) (k := 3) FD hm (FD.bindsN fun _ _ _ _ _ _ us hl => match us, hl with | [_, _, _, _], _ => rfl) sc_left_row fun cdv A outer s H E hr =>
    have nd := sc_left_row.nd
    have hu4 := room4 hr
    have hu5 := room5 hr
    l_cons (s_setF (i := 4) nd rfl (Or.inr rfl) (c_call bkF c_numbers_of hr (by decide) rfl (a_cons (c_nF (pv 0)) (a_cons (c_add (qF (c_mul (c_nQ (pv 1)) (c_nQ (pv 3)))) (c_nQ (pv 2))) (a_nil))))) (l_one (s_retO (c_lc (own := [("n", 5)]) rfl nd (i_rg1 rfl M.b_range (c_nQ (pv 3))) (blkOk_by (N := ["product", "m", "t", "many", "row", "n"]) (sc := defScope (top 98)) (by decide +kernel)) (fun _ _ _ _ _ => g_nm (pg_name nd rfl (by first | exact Or.inl rfl | exact Or.inr rfl) (i := 5))) (fun _ _ _ _ _ => t_nil) (fun _ _ _ _ _ => c_ix hu4 (c_nQ (pv 4)) (qF (c_add (qF (c_mul (c_nQ (pv 1)) (c_nQ (pv 5)))) (c_nQ (pv 2)))) (fun _ _ => rfl)) (by decide))))
noncomputable def g__law_slope : Sx := sCons (sSet 2 (fTup (aCons (kD (.int 0)) (aCons (kD (.int 1)) (aNil))))) (sCons (sFor (ksOf (nF 0)) (bNm 3) (sSet 2 (fCall (aCons (nF 2) (aCons (fCall (aCons (b2 (b2 (nQ 0) (nQ 3) gIx) (b2 (fCall (aCons (nF 1) (aCons (nF 3) (aNil))) nGcd) (kD (.int 2)) aPow) aMul) (aCons (b2 (kD (.int 24)) (nQ 3) aMul) (aNil))) F__law_ratio) (aNil))) F__law_plus))) (sRet (nF 2)))
noncomputable def h__law_slope : Sx := xsCons (xsSet 2 (xfTup (xaCons (kD (.int 0)) (xaCons (kD (.int 1)) (aNil))))) (xsCons (xsFor (ksOf (xnF 0)) (xbNm 3) (xsSet 2 (xfCall (xaCons (xnF 2) (xaCons (xfCall (xaCons (xb2 (xb2 (xnQ 0) (xnQ 3) xIx) (xb2 (xfCall (xaCons (xnF 1) (xaCons (xnF 3) (aNil))) nGcd) (kD (.int 2)) aPow) xMul) (xaCons (xb2 (kD (.int 24)) (xnQ 3) xMul) (aNil))) T__law_ratio) (aNil))) T__law_plus))) (xsRet (xnF 2)))
noncomputable def F__law_slope : List PyData → Option PyData := xrunF 4 2 h__law_slope
theorem hx__law_slope : F__law_slope = runF 4 2 g__law_slope := by
  unfold F__law_slope
  rw [xrunF_eq]
  congr 1
  unfold h__law_slope g__law_slope
  simp only [T__law_plus_eq, T__law_ratio_eq, xIx_eq, xMul_eq, xaCons_eq, xb2_eq, xbNm_eq, xfCall_eq, xfTup_eq, xnF_eq, xnQ_eq, xsCons_eq, xsFor_eq, xsRet_eq, xsSet_eq]
theorem sc__law_slope : FnScope ["_law_powers", "_law_end", "_law_found", "_law_step"] ["_law_powers", "_law_end"] (defScope (top 127)) := ⟨rfl, rfl, rfl, by decide +kernel, rfl, by decide +kernel, by decide +kernel⟩
theorem cal__law_slope (M : Mg mg) (FD : FunD K "_law_slope" "_law_slope" (defArgs (top 127)) (defBody (top 127)) (defScope (top 127)) [] [] f fd) (hm : mg "_law_slope" = some (.ref f)) (c__law_gcd : CF P w K mg base 1 "_law_gcd" nGcd) (c__law_plus : CF P w K mg base 3 "_law_plus" F__law_plus) (c__law_ratio : CF P w K mg base 2 "_law_ratio" F__law_ratio) : CF P w K mg base 4 "_law_slope" F__law_slope := by
  rw [hx__law_slope]
  exact fn_F (g := g__law_slope) (k := 3) FD hm (FD.bindsN fun _ _ _ _ _ _ us hl => match us, hl with | [_, _], _ => rfl) sc__law_slope fun cdv A outer s H E hr =>
    have nd := sc__law_slope.nd
    have hu4 := room4 hr
    have hu5 := room5 hr
    l_cons (s_setF (i := 2) nd rfl (Or.inl rfl) (c_tup (a_cons (c_int) (a_cons (c_int) (a_nil))))) (l_cons (s_forK lkF PassesOwn.never rfl (pv 0) (g_nm (pg_name nd rfl (by first | exact Or.inl rfl | exact Or.inr rfl) (i := 3))) (l_one (s_setF (i := 2) nd rfl (Or.inl rfl) (c_call bkF c__law_plus hr (by decide) rfl (a_cons (c_nF (pv 2)) (a_cons (c_call bkF c__law_ratio hr (by decide) rfl (a_cons (c_mul (qF (c_ix hu4 (c_nQ (pv 0)) (c_nQ (pv 3)) (fun _ _ => rfl))) (qF (c_pow (qF (c_call bkF c__law_gcd hr (by decide) rfl (a_cons (c_nF (pv 1)) (a_cons (c_nF (pv 3)) (a_nil))))) (qF (c_int))))) (a_cons (c_mul (qF (c_int)) (c_nQ (pv 3))) (a_nil)))) (a_nil))))))) (l_one (s_retF (c_nF (pv 2)))))
noncomputable def g__law_place : Sx := sCons (sSet 4 (fCall (aCons (nF 0) (aCons (nF 1) (aCons (nF 2) (aNil)))) F__law_x)) (sCons (sSet 5 (fCall (aCons (fCall (aCons (fCall (aCons (nF 3) (aNil)) F__law_step_sum) (aCons (kD (.int 24)) (aNil))) F__law_ratio) (aCons (fTup (aCons (b2 (kD (.int 0)) (b2 (nQ 4) (kD (.int 0)) gIx) aSub) (aCons (b2 (nQ 4) (kD (.int 1)) gIx) (aNil)))) (aNil))) F__law_plus)) (sRet (iF (bAnd (oB (b2 (b2 (nQ 5) (kD (.int 1)) gIx) (kD (.int 1)) cEq)) (oB (b2 (b2 (nQ 5) (kD (.int 0)) gIx) (kD (.int 0)) cGe))) (b2 (nQ 5) (kD (.int 0)) gIx) (kD .none))))
noncomputable def h__law_place : Sx := xsCons (xsSet 4 (xfCall (xaCons (xnF 0) (xaCons (xnF 1) (xaCons (xnF 2) (aNil)))) F__law_x)) (xsCons (xsSet 5 (xfCall (xaCons (xfCall (xaCons (xfCall (xaCons (xnF 3) (aNil)) F__law_step_sum) (xaCons (kD (.int 24)) (aNil))) T__law_ratio) (xaCons (xfTup (xaCons (xb2 (kD (.int 0)) (xb2 (xnQ 4) (kD (.int 0)) xIx) xSub) (xaCons (xb2 (xnQ 4) (kD (.int 1)) xIx) (aNil)))) (aNil))) T__law_plus)) (xsRet (xiF (xbAnd (xoB (xb2 (xb2 (xnQ 5) (kD (.int 1)) xIx) (kD (.int 1)) xEq)) (xoB (xb2 (xb2 (xnQ 5) (kD (.int 0)) xIx) (kD (.int 0)) xGe))) (xb2 (xnQ 5) (kD (.int 0)) xIx) (kD .none))))
noncomputable def F__law_place : List PyData → Option PyData := xrunF 6 4 h__law_place
theorem hx__law_place : F__law_place = runF 6 4 g__law_place := by
  unfold F__law_place
  rw [xrunF_eq]
  congr 1
  unfold h__law_place g__law_place
  simp only [T__law_plus_eq, T__law_ratio_eq, xEq_eq, xGe_eq, xIx_eq, xSub_eq, xaCons_eq, xb2_eq, xbAnd_eq, xfCall_eq, xfTup_eq, xiF_eq, xnF_eq, xnQ_eq, xoB_eq, xsCons_eq, xsRet_eq, xsSet_eq]
theorem sc__law_place : FnScope ["_law_powers", "_law_m", "_law_t", "_law_one", "_law_x_here", "_law_found"] ["_law_powers", "_law_m", "_law_t", "_law_one"] (defScope (top 130)) := ⟨rfl, rfl, rfl, by decide +kernel, rfl, by decide +kernel, by decide +kernel⟩
theorem cal__law_place (M : Mg mg) (FD : FunD K "_law_place" "_law_place" (defArgs (top 130)) (defBody (top 130)) (defScope (top 130)) [] [] f fd) (hm : mg "_law_place" = some (.ref f)) (c__law_plus : CF P w K mg base 3 "_law_plus" F__law_plus) (c__law_ratio : CF P w K mg base 2 "_law_ratio" F__law_ratio) (c__law_step_sum : CF P w K mg base 1 "_law_step_sum" F__law_step_sum) (c__law_x : CF P w K mg base 3 "_law_x" F__law_x) : CF P w K mg base 4 "_law_place" F__law_place := by
  rw [hx__law_place]
  exact fn_F (g := g__law_place) (k := 3) FD hm (FD.bindsN fun _ _ _ _ _ _ us hl => match us, hl with | [_, _, _, _], _ => rfl) sc__law_place fun cdv A outer s H E hr =>
    have nd := sc__law_place.nd
    have hu4 := room4 hr
    have hu5 := room5 hr
    l_cons (s_setF (i := 4) nd rfl (Or.inl rfl) (c_call bkF c__law_x hr (by decide) rfl (a_cons (c_nF (pv 0)) (a_cons (c_nF (pv 1)) (a_cons (c_nF (pv 2)) (a_nil)))))) (l_cons (s_setF (i := 5) nd rfl (Or.inl rfl) (c_call bkF c__law_plus hr (by decide) rfl (a_cons (c_call bkF c__law_ratio hr (by decide) rfl (a_cons (c_call bkF c__law_step_sum hr (by decide) rfl (a_cons (c_nF (pv 3)) (a_nil))) (a_cons (c_int) (a_nil)))) (a_cons (c_tup (a_cons (c_sub (qF (c_int)) (qF (c_ix hu4 (c_nQ (pv 4)) (qF (c_int)) (fun _ _ => rfl)))) (a_cons (c_ix hu4 (c_nQ (pv 4)) (qF (c_int)) (fun _ _ => rfl)) (a_nil)))) (a_nil))))) (l_one (s_retF (c_if (b_w (w_and (b_eq hu4 (qF (c_ix hu4 (c_nQ (pv 5)) (qF (c_int)) (fun _ _ => rfl))) (qF (c_int))) (w_and1 (b_ge (qF (c_ix hu4 (c_nQ (pv 5)) (qF (c_int)) (fun _ _ => rfl))) (qF (c_int)))))) (c_ix hu4 (c_nQ (pv 5)) (qF (c_int)) (fun _ _ => rfl)) (c_none)))))
noncomputable def g__law_serves_all : Sx := sCons (sIf (bNot (oB (fCall (aCons (nF 0) (aCons (nF 1) (aCons (nF 2) (aCons (nF 4) (aNil))))) F__law_serves))) (sRet (kD (.bool false))) (sNil)) (sCons (sFor (sqOf (nF 3)) (bTup 2 (bsCons (bNm 5) (bsCons (bNm 6) (bsNil)))) (sCons (sIf (oB (b2 (fLc (ksOf (nF 6)) (bNm 7) (bAnd (oB (b2 (b2 (nQ 6) (nQ 7) gIx) (kD (.int 0)) cNe)) (oB (b2 (b2 (u1 (nQ 4) gInt) (nQ 7) aMod) (kD (.int 0)) cNe))) (nF 7) [7]) (fLst (aNil)) cNeE)) (sRet (kD (.bool false))) (sNil)) (sIf (bNot (oB (fCall (aCons (nF 6) (aCons (b2 (b2 (nQ 3) (kD (.int 0)) gIx) (kD (.int 1)) gIx) (aCons (nF 4) (aNil)))) F__law_are_beside))) (sRet (kD (.bool false))) (sNil)))) (sRet (kD (.bool true))))
noncomputable def h__law_serves_all : Sx := xsCons (xsIf (xbNot (xoB (xfCall (xaCons (xnF 0) (xaCons (xnF 1) (xaCons (xnF 2) (xaCons (xnF 4) (aNil))))) F__law_serves))) (xsRet (kD (.bool false))) (sNil)) (xsCons (xsFor (xsqOf (xnF 3)) (xbTup 2 (xbsCons (xbNm 5) (xbsCons (xbNm 6) (bsNil)))) (xsCons (xsIf (xoB (xb2 (xfLc (ksOf (xnF 6)) (xbNm 7) (xbAnd (xoB (xb2 (xb2 (xnQ 6) (xnQ 7) xIx) (kD (.int 0)) xNe)) (xoB (xb2 (xb2 (xu1 (xnQ 4) xInt) (xnQ 7) xMod) (kD (.int 0)) xNe))) (xnF 7) [7]) (fLst (aNil)) cNeE)) (xsRet (kD (.bool false))) (sNil)) (xsIf (xbNot (xoB (xfCall (xaCons (xnF 6) (xaCons (xb2 (xb2 (xnQ 3) (kD (.int 0)) xIx) (kD (.int 1)) xIx) (xaCons (xnF 4) (aNil)))) F__law_are_beside))) (xsRet (kD (.bool false))) (sNil)))) (xsRet (kD (.bool true))))
noncomputable def F__law_serves_all : List PyData → Option PyData := xrunF 8 5 h__law_serves_all
theorem hx__law_serves_all : F__law_serves_all = runF 8 5 g__law_serves_all := by
  unfold F__law_serves_all
  rw [xrunF_eq]
  congr 1
  unfold h__law_serves_all g__law_serves_all
  simp only [xInt_eq, xIx_eq, xMod_eq, xNe_eq, xaCons_eq, xb2_eq, xbAnd_eq, xbNm_eq, xbNot_eq, xbTup_eq, xbsCons_eq, xfCall_eq, xfLc_eq, xnF_eq, xnQ_eq, xoB_eq, xsCons_eq, xsFor_eq, xsIf_eq, xsRet_eq, xsqOf_eq, xu1_eq]
theorem sc__law_serves_all : FnScope ["_law_powers", "_law_m", "_law_t", "_law_terms", "_law_level", "_law_number", "_law_one", "_law_step"] ["_law_powers", "_law_m", "_law_t", "_law_terms", "_law_level"] (defScope (top 134)) := ⟨rfl, rfl, rfl, by decide +kernel, rfl, by decide +kernel, by decide +kernel⟩
theorem cal__law_serves_all (M : Mg mg) (FD : FunD K "_law_serves_all" "_law_serves_all" (defArgs (top 134)) (defBody (top 134)) (defScope (top 134)) [] [] f fd) (hm : mg "_law_serves_all" = some (.ref f)) (c__law_are_beside : CF P w K mg base 3 "_law_are_beside" F__law_are_beside) (c__law_serves : CF P w K mg base 2 "_law_serves" F__law_serves) : CF P w K mg base 4 "_law_serves_all" F__law_serves_all := by
  rw [hx__law_serves_all]
  exact fn_F (g := g__law_serves_all) (k := 3) FD hm (FD.bindsN fun _ _ _ _ _ _ us hl => match us, hl with | [_, _, _, _, _], _ => rfl) sc__law_serves_all fun cdv A outer s H E hr =>
    have nd := sc__law_serves_all.nd
    have hu4 := room4 hr
    have hu5 := room5 hr
    l_cons (s_if (b_not (b_val (c_call bkF c__law_serves hr (by decide) rfl (a_cons (c_nF (pv 0)) (a_cons (c_nF (pv 1)) (a_cons (c_nF (pv 2)) (a_cons (c_nF (pv 4)) (a_nil)))))))) (l_one (s_retF (c_bool))) (l_nil)) (l_cons (s_for PassesOwn.never rfl (i_sq (c_nF (pv 3))) (g_tup rfl (gs_cons (g_nm (pg_name nd rfl (by first | exact Or.inl rfl | exact Or.inr rfl) (i := 5))) (gs_cons (g_nm (pg_name nd rfl (by first | exact Or.inl rfl | exact Or.inr rfl) (i := 6))) (gs_nil)))) (l_cons (s_if (b_neE hu4 (qO (c_lcK (own := [("_law_step", 7)]) rfl nd (pv 6) (blkOk_by (N := ["_law_powers", "_law_m", "_law_t", "_law_terms", "_law_level", "_law_number", "_law_one", "_law_step"]) (sc := defScope (top 134)) (by decide +kernel)) (fun _ _ _ _ _ => g_nm (pg_name nd rfl (by first | exact Or.inl rfl | exact Or.inr rfl) (i := 7))) (fun _ _ _ _ _ => t_one (b_w (w_and (b_ne hu4 (qF (c_ix hu4 (c_nQ (pv 6)) (c_nQ (pv 7)) (fun _ _ => rfl))) (qF (c_int))) (w_and1 (b_ne hu4 (qF (c_mod (qF (c_int1 rfl M.b_int (c_nQ (pv 4)))) (c_nQ (pv 7)))) (qF (c_int))))))) (fun _ _ _ _ _ => c_nF (pv 7)) (by decide))) (qO (c_lst (a_nil)))) (l_one (s_retF (c_bool))) (l_nil)) (l_one (s_if (b_not (b_val (c_call bkF c__law_are_beside hr (by decide) rfl (a_cons (c_nF (pv 6)) (a_cons (c_ix hu4 (qF (c_ix hu4 (c_nQ (pv 3)) (qF (c_int)) (fun _ _ => rfl))) (qF (c_int)) (fun _ _ => rfl)) (a_cons (c_nF (pv 4)) (a_nil))))))) (l_one (s_retF (c_bool))) (l_nil))))) (l_one (s_retF (c_bool))))
noncomputable def g__law_low : Sx := sCons (sPar3 6 7 8 false false false (b2 (nQ 1) (nQ 2) aMul) (fCall (aCons (b2 (b2 (nQ 1) (nQ 1) aMul) (kD (.int 1)) aSub) (aCons (kD (.int 24)) (aNil))) nGcd) (kD .none)) (sCons (sSetO 3 (kD (.dict []))) (sCons (sFor (r2Of (kD (.int 1)) (b2 (nQ 6) (kD (.int 1)) aAdd)) (bNm 4) (sIf (oB (b2 (fCall (aCons (nF 4) (aCons (nF 2) (aNil))) nGcd) (kD (.int 1)) cEq)) (sFor (r1Of (nQ 1)) (bNm 11) (sSt 3 (b2 (u1 (b2 (nQ 4) (b2 (b2 (nQ 7) (nQ 11) aMul) (nQ 2) aMul) aAdd) gInt) (nQ 6) aMod) (kD (.bool true)) putK')) (sNil))) (sCons (sFor (sqOf (u1 (u1 (nQ 3) gList) gSortI)) (bNm 5) (sCons (sSet 9 (fTup (aCons (kD (.int 0)) (aCons (kD (.int 1)) (aNil))))) (sCons (sFor (ksOf (nF 0)) (bNm 10) (sCons (sSet 12 (fCall (aCons (b2 (nQ 10) (nQ 5) aMul) (aCons (nF 6) (aNil))) nGcd)) (sSet 9 (fCall (aCons (nF 9) (aCons (fCall (aCons (b2 (b2 (b2 (nQ 0) (nQ 10) gIx) (nQ 12) aMul) (nQ 12) aMul) (aCons (b2 (b2 (kD (.int 24)) (nQ 10) aMul) (nQ 1) aMul) (aNil))) F__law_ratio) (aNil))) F__law_plus)))) (sSet 8 (iF (bOr (oB (b2 (nQ 8) (kD .none) cIsN)) (oB (fCall (aCons (nF 9) (aCons (nF 8) (aNil))) F__law_is_less))) (nF 9) (nF 8)))))) (sRet (nF 8)))))
noncomputable def h_lowB : Sx := xsCons (xsSetO 3 (kD (.dict []))) (xsFor (xr2 (kD (.int 1)) (xb2 (xnQ 6) (kD (.int 1)) xAdd)) (xbNm 4) (xsIf (xoB (xb2 (xfCall (xaCons (xnF 4) (xaCons (xnF 2) (aNil))) nGcd) (kD (.int 1)) xEq)) (xsFor (xr1 (xnQ 1)) (xbNm 11) (xsSt 3 (xb2 (xu1 (xb2 (xnQ 4) (xb2 (xb2 (xnQ 7) (xnQ 11) xMul) (xnQ 2) xMul) xAdd) xInt) (xnQ 6) xMod) (kD (.bool true)) putK')) (sNil)))
theorem h_lowB_eq : h_lowB = sCons (sSetO 3 (kD (.dict []))) (sFor (r2Of (kD (.int 1)) (b2 (nQ 6) (kD (.int 1)) aAdd)) (bNm 4) (sIf (oB (b2 (fCall (aCons (nF 4) (aCons (nF 2) (aNil))) nGcd) (kD (.int 1)) cEq)) (sFor (r1Of (nQ 1)) (bNm 11) (sSt 3 (b2 (u1 (b2 (nQ 4) (b2 (b2 (nQ 7) (nQ 11) aMul) (nQ 2) aMul) aAdd) gInt) (nQ 6) aMod) (kD (.bool true)) putK')) (sNil))) := by
  unfold h_lowB
  simp only [xAdd_eq, xEq_eq, xInt_eq, xMod_eq, xMul_eq, xaCons_eq, xb2_eq, xbNm_eq, xfCall_eq, xnF_eq, xnQ_eq, xoB_eq, xr1_eq, xr2_eq, xsCons_eq, xsFor_eq, xsIf_eq, xsSetO_eq, xsSt_eq, xu1_eq]
noncomputable def tab_low : List LowT := [LowT.mk (Int.ofNat 2) (Int.ofNat 1) (Int.ofNat 2) (Int.ofNat 3) (Int.ofNat 2) (Int.ofNat 1) (.dict [(.int (Int.ofNat 1), .bool true), (.int (Int.ofNat 0), .bool true)]),
  LowT.mk (Int.ofNat 2) (Int.ofNat 2) (Int.ofNat 4) (Int.ofNat 3) (Int.ofNat 4) (Int.ofNat 1) (.dict [(.int (Int.ofNat 1), .bool true), (.int (Int.ofNat 3), .bool true)]),
  LowT.mk (Int.ofNat 2) (Int.ofNat 3) (Int.ofNat 6) (Int.ofNat 3) (Int.ofNat 6) (Int.ofNat 1) (.dict [(.int (Int.ofNat 1), .bool true), (.int (Int.ofNat 4), .bool true), (.int (Int.ofNat 2), .bool true), (.int (Int.ofNat 5), .bool true)]),
  LowT.mk (Int.ofNat 2) (Int.ofNat 4) (Int.ofNat 8) (Int.ofNat 3) (Int.ofNat 8) (Int.ofNat 1) (.dict [(.int (Int.ofNat 1), .bool true), (.int (Int.ofNat 5), .bool true), (.int (Int.ofNat 3), .bool true), (.int (Int.ofNat 7), .bool true)]),
  LowT.mk (Int.ofNat 2) (Int.ofNat 6) (Int.ofNat 12) (Int.ofNat 3) (Int.ofNat 12) (Int.ofNat 1) (.dict [(.int (Int.ofNat 1), .bool true), (.int (Int.ofNat 7), .bool true), (.int (Int.ofNat 5), .bool true), (.int (Int.ofNat 11), .bool true)]),
  LowT.mk (Int.ofNat 2) (Int.ofNat 8) (Int.ofNat 16) (Int.ofNat 3) (Int.ofNat 16) (Int.ofNat 1) (.dict [(.int (Int.ofNat 1), .bool true), (.int (Int.ofNat 9), .bool true), (.int (Int.ofNat 3), .bool true), (.int (Int.ofNat 11), .bool true), (.int (Int.ofNat 5), .bool true), (.int (Int.ofNat 13), .bool true), (.int (Int.ofNat 7), .bool true), (.int (Int.ofNat 15), .bool true)]),
  LowT.mk (Int.ofNat 2) (Int.ofNat 12) (Int.ofNat 24) (Int.ofNat 3) (Int.ofNat 24) (Int.ofNat 1) (.dict [(.int (Int.ofNat 1), .bool true), (.int (Int.ofNat 13), .bool true), (.int (Int.ofNat 5), .bool true), (.int (Int.ofNat 17), .bool true), (.int (Int.ofNat 7), .bool true), (.int (Int.ofNat 19), .bool true), (.int (Int.ofNat 11), .bool true), (.int (Int.ofNat 23), .bool true)]),
  LowT.mk (Int.ofNat 3) (Int.ofNat 1) (Int.ofNat 3) (Int.ofNat 8) (Int.ofNat 3) (Int.ofNat 2) (.dict [(.int (Int.ofNat 1), .bool true), (.int (Int.ofNat 0), .bool true), (.int (Int.ofNat 2), .bool true)]),
  LowT.mk (Int.ofNat 3) (Int.ofNat 2) (Int.ofNat 6) (Int.ofNat 8) (Int.ofNat 6) (Int.ofNat 2) (.dict [(.int (Int.ofNat 1), .bool true), (.int (Int.ofNat 5), .bool true), (.int (Int.ofNat 3), .bool true)]),
  LowT.mk (Int.ofNat 3) (Int.ofNat 3) (Int.ofNat 9) (Int.ofNat 8) (Int.ofNat 9) (Int.ofNat 2) (.dict [(.int (Int.ofNat 1), .bool true), (.int (Int.ofNat 7), .bool true), (.int (Int.ofNat 4), .bool true), (.int (Int.ofNat 2), .bool true), (.int (Int.ofNat 8), .bool true), (.int (Int.ofNat 5), .bool true)]),
  LowT.mk (Int.ofNat 4) (Int.ofNat 1) (Int.ofNat 4) (Int.ofNat 3) (Int.ofNat 4) (Int.ofNat 3) (.dict [(.int (Int.ofNat 1), .bool true), (.int (Int.ofNat 0), .bool true), (.int (Int.ofNat 3), .bool true), (.int (Int.ofNat 2), .bool true)]),
  LowT.mk (Int.ofNat 4) (Int.ofNat 2) (Int.ofNat 8) (Int.ofNat 3) (Int.ofNat 8) (Int.ofNat 3) (.dict [(.int (Int.ofNat 1), .bool true), (.int (Int.ofNat 7), .bool true), (.int (Int.ofNat 5), .bool true), (.int (Int.ofNat 3), .bool true)]),
  LowT.mk (Int.ofNat 4) (Int.ofNat 3) (Int.ofNat 12) (Int.ofNat 3) (Int.ofNat 12) (Int.ofNat 3) (.dict [(.int (Int.ofNat 1), .bool true), (.int (Int.ofNat 10), .bool true), (.int (Int.ofNat 7), .bool true), (.int (Int.ofNat 4), .bool true), (.int (Int.ofNat 2), .bool true), (.int (Int.ofNat 11), .bool true), (.int (Int.ofNat 8), .bool true), (.int (Int.ofNat 5), .bool true)]),
  LowT.mk (Int.ofNat 4) (Int.ofNat 4) (Int.ofNat 16) (Int.ofNat 3) (Int.ofNat 16) (Int.ofNat 3) (.dict [(.int (Int.ofNat 1), .bool true), (.int (Int.ofNat 13), .bool true), (.int (Int.ofNat 9), .bool true), (.int (Int.ofNat 5), .bool true), (.int (Int.ofNat 3), .bool true), (.int (Int.ofNat 15), .bool true), (.int (Int.ofNat 11), .bool true), (.int (Int.ofNat 7), .bool true)]),
  LowT.mk (Int.ofNat 4) (Int.ofNat 6) (Int.ofNat 24) (Int.ofNat 3) (Int.ofNat 24) (Int.ofNat 3) (.dict [(.int (Int.ofNat 1), .bool true), (.int (Int.ofNat 19), .bool true), (.int (Int.ofNat 13), .bool true), (.int (Int.ofNat 7), .bool true), (.int (Int.ofNat 5), .bool true), (.int (Int.ofNat 23), .bool true), (.int (Int.ofNat 17), .bool true), (.int (Int.ofNat 11), .bool true)]),
  LowT.mk (Int.ofNat 5) (Int.ofNat 1) (Int.ofNat 5) (Int.ofNat 24) (Int.ofNat 5) (Int.ofNat 4) (.dict [(.int (Int.ofNat 1), .bool true), (.int (Int.ofNat 0), .bool true), (.int (Int.ofNat 4), .bool true), (.int (Int.ofNat 3), .bool true), (.int (Int.ofNat 2), .bool true)]),
  LowT.mk (Int.ofNat 5) (Int.ofNat 2) (Int.ofNat 10) (Int.ofNat 24) (Int.ofNat 10) (Int.ofNat 4) (.dict [(.int (Int.ofNat 1), .bool true), (.int (Int.ofNat 9), .bool true), (.int (Int.ofNat 7), .bool true), (.int (Int.ofNat 5), .bool true), (.int (Int.ofNat 3), .bool true)]),
  LowT.mk (Int.ofNat 5) (Int.ofNat 3) (Int.ofNat 15) (Int.ofNat 24) (Int.ofNat 15) (Int.ofNat 4) (.dict [(.int (Int.ofNat 1), .bool true), (.int (Int.ofNat 13), .bool true), (.int (Int.ofNat 10), .bool true), (.int (Int.ofNat 7), .bool true), (.int (Int.ofNat 4), .bool true), (.int (Int.ofNat 2), .bool true), (.int (Int.ofNat 14), .bool true), (.int (Int.ofNat 11), .bool true), (.int (Int.ofNat 8), .bool true), (.int (Int.ofNat 5), .bool true)]),
  LowT.mk (Int.ofNat 5) (Int.ofNat 5) (Int.ofNat 25) (Int.ofNat 24) (Int.ofNat 25) (Int.ofNat 4) (.dict [(.int (Int.ofNat 1), .bool true), (.int (Int.ofNat 21), .bool true), (.int (Int.ofNat 16), .bool true), (.int (Int.ofNat 11), .bool true), (.int (Int.ofNat 6), .bool true), (.int (Int.ofNat 2), .bool true), (.int (Int.ofNat 22), .bool true), (.int (Int.ofNat 17), .bool true), (.int (Int.ofNat 12), .bool true), (.int (Int.ofNat 7), .bool true), (.int (Int.ofNat 3), .bool true), (.int (Int.ofNat 23), .bool true), (.int (Int.ofNat 18), .bool true), (.int (Int.ofNat 13), .bool true), (.int (Int.ofNat 8), .bool true), (.int (Int.ofNat 4), .bool true), (.int (Int.ofNat 24), .bool true), (.int (Int.ofNat 19), .bool true), (.int (Int.ofNat 14), .bool true), (.int (Int.ofNat 9), .bool true)]),
  LowT.mk (Int.ofNat 7) (Int.ofNat 1) (Int.ofNat 7) (Int.ofNat 24) (Int.ofNat 7) (Int.ofNat 6) (.dict [(.int (Int.ofNat 1), .bool true), (.int (Int.ofNat 4), .bool true), (.int (Int.ofNat 0), .bool true), (.int (Int.ofNat 3), .bool true), (.int (Int.ofNat 6), .bool true), (.int (Int.ofNat 2), .bool true), (.int (Int.ofNat 5), .bool true)])]
noncomputable def T_lowB : Sx := xlowB tab_low h_lowB
theorem T_lowB_eq : T_lowB = sCons (sSetO 3 (kD (.dict []))) (sFor (r2Of (kD (.int 1)) (b2 (nQ 6) (kD (.int 1)) aAdd)) (bNm 4) (sIf (oB (b2 (fCall (aCons (nF 4) (aCons (nF 2) (aNil))) nGcd) (kD (.int 1)) cEq)) (sFor (r1Of (nQ 1)) (bNm 11) (sSt 3 (b2 (u1 (b2 (nQ 4) (b2 (b2 (nQ 7) (nQ 11) aMul) (nQ 2) aMul) aAdd) gInt) (nQ 6) aMod) (kD (.bool true)) putK')) (sNil))) := (xlowB_eq fun pw => by kernel_rfl).trans h_lowB_eq
noncomputable def h__law_low : Sx := xsCons (xsPar3 6 7 8 false false false (xb2 (xnQ 1) (xnQ 2) xMul) (xfCall (xaCons (xb2 (xb2 (xnQ 1) (xnQ 1) xMul) (kD (.int 1)) xSub) (xaCons (kD (.int 24)) (aNil))) nGcd) (kD .none)) (xsCons T_lowB (xsCons (xsFor (xsqOf (xu1 (xu1 (xnQ 3) gList) gSortI)) (xbNm 5) (xsCons (xsSet 9 (xfTup (xaCons (kD (.int 0)) (xaCons (kD (.int 1)) (aNil))))) (xsCons (xsFor (ksOf (xnF 0)) (xbNm 10) (xsCons (xsSet 12 (xfCall (xaCons (xb2 (xnQ 10) (xnQ 5) xMul) (xaCons (xnF 6) (aNil))) nGcd)) (xsSet 9 (xfCall (xaCons (xnF 9) (xaCons (xfCall (xaCons (xb2 (xb2 (xb2 (xnQ 0) (xnQ 10) xIx) (xnQ 12) xMul) (xnQ 12) xMul) (xaCons (xb2 (xb2 (kD (.int 24)) (xnQ 10) xMul) (xnQ 1) xMul) (aNil))) T__law_ratio) (aNil))) T__law_plus)))) (xsSet 8 (xiF (xbOr (xoB (xb2 (xnQ 8) (kD .none) cIsN)) (xoB (xfCall (xaCons (xnF 9) (xaCons (xnF 8) (aNil))) F__law_is_less))) (xnF 9) (xnF 8)))))) (xsRet (xnF 8))))
noncomputable def F__law_low : List PyData → Option PyData := xrunF 13 3 h__law_low
theorem hx__law_low : F__law_low = runF 13 3 g__law_low := by
  unfold F__law_low
  rw [xrunF_eq]
  congr 1
  unfold h__law_low g__law_low
  simp only [T__law_plus_eq, T__law_ratio_eq, T_lowB_eq, xAdd_eq, xEq_eq, xInt_eq, xIx_eq, xMod_eq, xMul_eq, xSub_eq, xaCons_eq, xb2_eq, xbNm_eq, xbOr_eq, xfCall_eq, xfTup_eq, xiF_eq, xnF_eq, xnQ_eq, xoB_eq, xr1_eq, xr2_eq, xsCons_eq, xsFor_eq, xsIf_eq, xsPar3_eq, xsRet_eq, xsSet_eq, xsSetO_eq, xsSt_eq, xsqOf_eq, xu1_eq, sCons_assoc]
theorem sc__law_low : FnScope ["_law_powers", "_law_m", "_law_end", "_law_rests", "_law_a", "_law_rest", "_law_wide", "_law_k", "_law_least", "_law_total", "_law_step", "_law_l", "_law_near"] ["_law_powers", "_law_m", "_law_end"] (defScope (top 136)) := ⟨rfl, rfl, rfl, by decide +kernel, rfl, by decide +kernel, by decide +kernel⟩
theorem cal__law_low (M : Mg mg) (FD : FunD K "_law_low" "_law_low" (defArgs (top 136)) (defBody (top 136)) (defScope (top 136)) [] [] f fd) (hm : mg "_law_low" = some (.ref f)) (c__law_gcd : CF P w K mg base 1 "_law_gcd" nGcd) (c__law_is_less : CF P w K mg base 1 "_law_is_less" F__law_is_less) (c__law_plus : CF P w K mg base 3 "_law_plus" F__law_plus) (c__law_ratio : CF P w K mg base 2 "_law_ratio" F__law_ratio) : CF P w K mg base 4 "_law_low" F__law_low := by
  rw [hx__law_low]
  exact fn_F (g := g__law_low) (k := 3) FD hm (FD.bindsN fun _ _ _ _ _ _ us hl => match us, hl with | [_, _, _], _ => rfl) sc__law_low fun cdv A outer s H E hr =>
    have nd := sc__law_low.nd
    have hu4 := room4 hr
    have hu5 := room5 hr
    l_cons (s_par3 (o1 := false) (o2 := false) (o3 := false) (i := 6) (j := 7) (l := 8) rfl nd rfl rfl rfl (by decide) (by decide) (by decide) rfl rfl rfl (c_mul (c_nQ (pv 1)) (c_nQ (pv 2))) (c_call bkF c__law_gcd hr (by decide) rfl (a_cons (c_sub (qF (c_mul (c_nQ (pv 1)) (c_nQ (pv 1)))) (qF (c_int))) (a_cons (c_int) (a_nil)))) (c_none) rfl) (l_cons (s_setO (i := 3) nd rfl (Or.inl rfl) (c_dct0)) (l_cons (s_for PassesOwn.never rfl (i_rg2 rfl M.b_range (qF (c_int)) (qF (c_add (c_nQ (pv 6)) (qF (c_int))))) (g_nm (pg_name nd rfl (by first | exact Or.inl rfl | exact Or.inr rfl) (i := 4))) (l_one (s_if (b_eq hu4 (qF (c_call bkF c__law_gcd hr (by decide) rfl (a_cons (c_nF (pv 4)) (a_cons (c_nF (pv 2)) (a_nil))))) (qF (c_int))) (l_one (s_for PassesOwn.never rfl (i_rg1 rfl M.b_range (c_nQ (pv 1))) (g_nm (pg_name nd rfl (by first | exact Or.inl rfl | exact Or.inr rfl) (i := 11))) (l_one (s_dput hu4 (pv 3) (qF (c_mod (qF (c_int1 rfl M.b_int (qF (c_add (c_nQ (pv 4)) (qF (c_mul (qF (c_mul (c_nQ (pv 7)) (c_nQ (pv 11)))) (c_nQ (pv 2)))))))) (c_nQ (pv 6)))) (c_bool) rfl)))) (l_nil)))) (l_cons (s_for PassesOwn.never rfl (i_sq (fO (c_sortI rfl M.b_sorted (qO (c_list rfl rfl M.b_list (c_nQ (pv 3))))))) (g_nm (pg_name nd rfl (by first | exact Or.inl rfl | exact Or.inr rfl) (i := 5))) (l_cons (s_setF (i := 9) nd rfl (Or.inl rfl) (c_tup (a_cons (c_int) (a_cons (c_int) (a_nil))))) (l_cons (s_forK lkF PassesOwn.never rfl (pv 0) (g_nm (pg_name nd rfl (by first | exact Or.inl rfl | exact Or.inr rfl) (i := 10))) (l_cons (s_setF (i := 12) nd rfl (Or.inl rfl) (c_call bkF c__law_gcd hr (by decide) rfl (a_cons (c_mul (c_nQ (pv 10)) (c_nQ (pv 5))) (a_cons (c_nF (pv 6)) (a_nil))))) (l_one (s_setF (i := 9) nd rfl (Or.inl rfl) (c_call bkF c__law_plus hr (by decide) rfl (a_cons (c_nF (pv 9)) (a_cons (c_call bkF c__law_ratio hr (by decide) rfl (a_cons (c_mul (qF (c_mul (qF (c_ix hu4 (c_nQ (pv 0)) (c_nQ (pv 10)) (fun _ _ => rfl))) (c_nQ (pv 12)))) (c_nQ (pv 12))) (a_cons (c_mul (qF (c_mul (qF (c_int)) (c_nQ (pv 10)))) (c_nQ (pv 1))) (a_nil)))) (a_nil)))))))) (l_one (s_setF (i := 8) nd rfl (Or.inl rfl) (c_if (b_w (w_or (b_isN (c_nQ (pv 8)) (qF (c_none))) (w_or1 (b_val (c_call bkF c__law_is_less hr (by decide) rfl (a_cons (c_nF (pv 9)) (a_cons (c_nF (pv 8)) (a_nil)))))))) (c_nF (pv 9)) (c_nF (pv 8)))))))) (l_one (s_retF (c_nF (pv 8)))))))
noncomputable def g_want_section : Sx := sCons (sDrop (fCall (aCons (nF 0) (aNil)) F_want_product)) (sCons (sDrop (fCall (aCons (nF 1) (aNil)) F_want_step)) (sIf (bOr (bNot (oB (fCall (aCons (nF 2) (aNil)) F_is_count))) (oB (b2 (nQ 2) (nQ 1) cGe))) (sNo) (sNil)))
noncomputable def h_want_section : Sx := xsCons (sDrop (xfCall (xaCons (xnF 0) (aNil)) F_want_product)) (xsCons (sDrop (xfCall (xaCons (xnF 1) (aNil)) F_want_step)) (xsIf (xbOr (xbNot (xoB (xfCall (xaCons (xnF 2) (aNil)) F_is_count))) (xoB (xb2 (xnQ 2) (xnQ 1) xGe))) (sNo) (sNil)))
noncomputable def F_want_section : List PyData → Option PyData := xrunF 3 3 h_want_section
theorem hx_want_section : F_want_section = runF 3 3 g_want_section := by
  unfold F_want_section
  rw [xrunF_eq]
  congr 1
  unfold h_want_section g_want_section
  simp only [xGe_eq, xaCons_eq, xb2_eq, xbNot_eq, xbOr_eq, xfCall_eq, xnF_eq, xnQ_eq, xoB_eq, xsCons_eq, xsIf_eq]
theorem sc_want_section : FnScope ["product", "m", "t"] ["product", "m", "t"] (defScope (top 64)) := ⟨rfl, rfl, rfl, by decide +kernel, rfl, by decide +kernel, by decide +kernel⟩
theorem cal_want_section (M : Mg mg) (FD : FunD K "want_section" "want_section" (defArgs (top 64)) (defBody (top 64)) (defScope (top 64)) [] [] f fd) (hm : mg "want_section" = some (.ref f)) (c_is_count : CF P w K mg base 2 "is_count" F_is_count) (c_want_product : CF P w K mg base 4 "want_product" F_want_product) (c_want_step : CF P w K mg base 3 "want_step" F_want_step) : CF P w K mg base 5 "want_section" F_want_section := by
  rw [hx_want_section]
  exact fn_F (g := g_want_section) (k := 4) FD hm (FD.bindsN fun _ _ _ _ _ _ us hl => match us, hl with | [_, _, _], _ => rfl) sc_want_section fun cdv A outer s H E hr =>
    have nd := sc_want_section.nd
    have hu4 := room4 hr
    have hu5 := room5 hr
    l_cons (s_expr (c_call bkF c_want_product hr (by decide) rfl (a_cons (c_nF (pv 0)) (a_nil)))) (l_cons (s_expr (c_call bkF c_want_step hr (by decide) rfl (a_cons (c_nF (pv 1)) (a_nil)))) (l_one (s_if (b_w (w_or (b_not (b_val (c_call bkF c_is_count hr (by decide) rfl (a_cons (c_nF (pv 2)) (a_nil))))) (w_or1 (b_ge (c_nQ (pv 2)) (c_nQ (pv 1)))))) (l_no) (l_nil))))
noncomputable def g_are_right : Sx := sCons (sIf (oB (u1 (fLc (sqOf (nF 3)) (bNm 5) (bYes) (b2 (fCall (aCons (nF 5) (aNil)) F_power_sum) (fCall (aCons (nF 0) (aNil)) F_power_sum) cNe) [5]) gAny)) (sRet (kD (.bool false))) (sNil)) (sCons (sFzA 4 (sSetO 4 (fLc (sqOf (nF 3)) (bNm 5) (bYes) (fCall (aCons (nF 0) (aCons (nF 1) (aCons (nF 2) (aCons (nF 5) (aNil))))) F_place_of_term) [5]))) (sRet (vAnd (b2 (kD .none) (nQ 4) cNotIn) (u1 (fLc (zpOf (nF 4) (slL (nQ 4) (soP (kD (.int 1))) (noP))) (bTup 2 (bsCons (bNm 6) (bsCons (bNm 7) (bsNil)))) (bYes) (b2 (nQ 6) (nQ 7) cLt) [6, 7]) gAll))))
noncomputable def h_are_right : Sx := xsCons (xsIf (xoB (xu1 (xfLc (xsqOf (xnF 3)) (xbNm 5) (bYes) (xb2 (xfCall (xaCons (xnF 5) (aNil)) F_power_sum) (xfCall (xaCons (xnF 0) (aNil)) F_power_sum) xNe) [5]) gAny)) (xsRet (kD (.bool false))) (sNil)) (xsCons (sFzA 4 (xsSetO 4 (xfLc (xsqOf (xnF 3)) (xbNm 5) (bYes) (xfCall (xaCons (xnF 0) (xaCons (xnF 1) (xaCons (xnF 2) (xaCons (xnF 5) (aNil))))) F_place_of_term) [5]))) (xsRet (xvAnd (xb2 (kD .none) (xnQ 4) cNotIn) (xu1 (xfLc (zpOf (xnF 4) (slL (xnQ 4) (soP (kD (.int 1))) (noP))) (xbTup 2 (xbsCons (xbNm 6) (xbsCons (xbNm 7) (bsNil)))) (bYes) (xb2 (xnQ 6) (xnQ 7) xLt) [6, 7]) gAll))))
noncomputable def F_are_right : List PyData → Option PyData := xrunF 8 4 h_are_right
theorem hx_are_right : F_are_right = runF 8 4 g_are_right := by
  unfold F_are_right
  rw [xrunF_eq]
  congr 1
  unfold h_are_right g_are_right
  simp only [xLt_eq, xNe_eq, xaCons_eq, xb2_eq, xbNm_eq, xbTup_eq, xbsCons_eq, xfCall_eq, xfLc_eq, xnF_eq, xnQ_eq, xoB_eq, xsCons_eq, xsIf_eq, xsRet_eq, xsSetO_eq, xsqOf_eq, xu1_eq, xvAnd_eq]
theorem sc_are_right : FnScope ["product", "m", "t", "products", "places", "one", "near", "far"] ["product", "m", "t", "products"] (defScope (top 90)) := ⟨rfl, rfl, rfl, by decide +kernel, rfl, by decide +kernel, by decide +kernel⟩
theorem cal_are_right (M : Mg mg) (FD : FunD K "are_right" "are_right" (defArgs (top 90)) (defBody (top 90)) (defScope (top 90)) [] [] f fd) (hm : mg "are_right" = some (.ref f)) (c_place_of_term : CF P w K mg base 4 "place_of_term" F_place_of_term) (c_power_sum : CF P w K mg base 1 "power_sum" F_power_sum) : CF P w K mg base 5 "are_right" F_are_right := by
  rw [hx_are_right]
  exact fn_F (g := g_are_right) (k := 4) FD hm (FD.bindsN fun _ _ _ _ _ _ us hl => match us, hl with | [_, _, _, _], _ => rfl) sc_are_right fun cdv A outer s H E hr =>
    have nd := sc_are_right.nd
    have hu4 := room4 hr
    have hu5 := room5 hr
    l_cons (s_if (b_val (c_any rfl rfl M.b_any (qO (c_lc (own := [("one", 5)]) rfl nd (i_sq (c_nF (pv 3))) (blkOk_by (N := ["product", "m", "t", "products", "places", "one", "near", "far"]) (sc := defScope (top 90)) (by decide +kernel)) (fun _ _ _ _ _ => g_nm (pg_name nd rfl (by first | exact Or.inl rfl | exact Or.inr rfl) (i := 5))) (fun _ _ _ _ _ => t_nil) (fun _ _ _ _ _ => c_ne hu4 (qF (c_call bkF c_power_sum hr (by decide) rfl (a_cons (c_nF (pv 5)) (a_nil)))) (qF (c_call bkF c_power_sum hr (by decide) rfl (a_cons (c_nF (pv 0)) (a_nil))))) (by decide))))) (l_one (s_retF (c_bool))) (l_nil)) (l_cons (s_fzA (s_lc (i := 4) (own := [("one", 5)]) rfl nd rfl rfl rfl (i_sq (c_nF (pv 3))) (blkOk_by (N := ["product", "m", "t", "products", "places", "one", "near", "far"]) (sc := defScope (top 90)) (by decide +kernel)) (fun _ _ _ _ _ => g_nm (pg_name nd rfl (by first | exact Or.inl rfl | exact Or.inr rfl) (i := 5))) (fun _ _ _ _ _ => t_nil) (fun _ _ _ _ _ => c_call bkF c_place_of_term hr (by decide) rfl (a_cons (c_nF (pv 0)) (a_cons (c_nF (pv 1)) (a_cons (c_nF (pv 2)) (a_cons (c_nF (pv 5)) (a_nil)))))) (by decide))) (l_one (s_retF (c_and (c_notIn hu5 (qF (c_none)) (c_nQ (pv 4))) (c_one (c_all rfl rfl M.b_all (qO (c_lc (own := [("near", 6), ("far", 7)]) rfl nd (i_zip rfl M.b_zip (c_nF (pv 4)) (fO (c_slL (c_nQ (pv 4)) (p_so (qF (c_int))) (p_no)))) (blkOk_by (N := ["product", "m", "t", "products", "places", "one", "near", "far"]) (sc := defScope (top 90)) (by decide +kernel)) (fun _ _ _ _ _ => g_tup rfl (gs_cons (g_nm (pg_name nd rfl (by first | exact Or.inl rfl | exact Or.inr rfl) (i := 6))) (gs_cons (g_nm (pg_name nd rfl (by first | exact Or.inl rfl | exact Or.inr rfl) (i := 7))) (gs_nil)))) (fun _ _ _ _ _ => t_nil) (fun _ _ _ _ _ => c_lt (c_nQ (pv 6)) (c_nQ (pv 7))) (by decide)))))))))
noncomputable def g_serves_products : Sx := sCons (sIf (oB (b2 (fCall (aCons (nF 0) (aCons (nF 1) (aCons (nF 2) (aCons (nF 4) (aNil))))) F_first_unserved) (kD .none) cNotN)) (sRet (kD (.bool false))) (sNil)) (sCons (sIf (bNot (oB (u1 (fLc (sqOf (nF 3)) (bNm 5) (bYes) (fCall (aCons (nF 5) (aCons (nF 4) (aNil))) F_steps_divide) [5]) gAll))) (sRet (kD (.bool false))) (sNil)) (sRet (u1 (fLc (sqOf (slL (nQ 3) (soP (kD (.int 1))) (noP))) (bNm 5) (bYes) (fCall (aCons (nF 5) (aCons (b2 (nQ 3) (kD (.int 0)) gIx) (aCons (nF 4) (aNil)))) F_is_beside) [5]) gAll)))
noncomputable def h_serves_products : Sx := xsCons (xsIf (xoB (xb2 (xfCall (xaCons (xnF 0) (xaCons (xnF 1) (xaCons (xnF 2) (xaCons (xnF 4) (aNil))))) F_first_unserved) (kD .none) cNotN)) (xsRet (kD (.bool false))) (sNil)) (xsCons (xsIf (xbNot (xoB (xu1 (xfLc (xsqOf (xnF 3)) (xbNm 5) (bYes) (xfCall (xaCons (xnF 5) (xaCons (xnF 4) (aNil))) F_steps_divide) [5]) gAll))) (xsRet (kD (.bool false))) (sNil)) (xsRet (xu1 (xfLc (xsqOf (slL (xnQ 3) (soP (kD (.int 1))) (noP))) (xbNm 5) (bYes) (xfCall (xaCons (xnF 5) (xaCons (xb2 (xnQ 3) (kD (.int 0)) xIx) (xaCons (xnF 4) (aNil)))) F_is_beside) [5]) gAll)))
noncomputable def F_serves_products : List PyData → Option PyData := xrunF 6 5 h_serves_products
theorem hx_serves_products : F_serves_products = runF 6 5 g_serves_products := by
  unfold F_serves_products
  rw [xrunF_eq]
  congr 1
  unfold h_serves_products g_serves_products
  simp only [xIx_eq, xaCons_eq, xb2_eq, xbNm_eq, xbNot_eq, xfCall_eq, xfLc_eq, xnF_eq, xnQ_eq, xoB_eq, xsCons_eq, xsIf_eq, xsRet_eq, xsqOf_eq, xu1_eq]
theorem sc_serves_products : FnScope ["product", "m", "t", "products", "level", "one"] ["product", "m", "t", "products", "level"] (defScope (top 93)) := ⟨rfl, rfl, rfl, by decide +kernel, rfl, by decide +kernel, by decide +kernel⟩
theorem cal_serves_products (M : Mg mg) (FD : FunD K "serves_products" "serves_products" (defArgs (top 93)) (defBody (top 93)) (defScope (top 93)) [] [] f fd) (hm : mg "serves_products" = some (.ref f)) (c_first_unserved : CF P w K mg base 4 "first_unserved" F_first_unserved) (c_is_beside : CF P w K mg base 3 "is_beside" F_is_beside) (c_steps_divide : CF P w K mg base 1 "steps_divide" F_steps_divide) : CF P w K mg base 5 "serves_products" F_serves_products := by
  rw [hx_serves_products]
  exact fn_F (g := g_serves_products) (k := 4) FD hm (FD.bindsN fun _ _ _ _ _ _ us hl => match us, hl with | [_, _, _, _, _], _ => rfl) sc_serves_products fun cdv A outer s H E hr =>
    have nd := sc_serves_products.nd
    have hu4 := room4 hr
    have hu5 := room5 hr
    l_cons (s_if (b_notN (qF (c_call bkF c_first_unserved hr (by decide) rfl (a_cons (c_nF (pv 0)) (a_cons (c_nF (pv 1)) (a_cons (c_nF (pv 2)) (a_cons (c_nF (pv 4)) (a_nil))))))) (qF (c_none))) (l_one (s_retF (c_bool))) (l_nil)) (l_cons (s_if (b_not (b_val (c_all rfl rfl M.b_all (qO (c_lc (own := [("one", 5)]) rfl nd (i_sq (c_nF (pv 3))) (blkOk_by (N := ["product", "m", "t", "products", "level", "one"]) (sc := defScope (top 93)) (by decide +kernel)) (fun _ _ _ _ _ => g_nm (pg_name nd rfl (by first | exact Or.inl rfl | exact Or.inr rfl) (i := 5))) (fun _ _ _ _ _ => t_nil) (fun _ _ _ _ _ => c_call bkF c_steps_divide hr (by decide) rfl (a_cons (c_nF (pv 5)) (a_cons (c_nF (pv 4)) (a_nil)))) (by decide)))))) (l_one (s_retF (c_bool))) (l_nil)) (l_one (s_retF (c_all rfl rfl M.b_all (qO (c_lc (own := [("one", 5)]) rfl nd (i_sq (fO (c_slL (c_nQ (pv 3)) (p_so (qF (c_int))) (p_no)))) (blkOk_by (N := ["product", "m", "t", "products", "level", "one"]) (sc := defScope (top 93)) (by decide +kernel)) (fun _ _ _ _ _ => g_nm (pg_name nd rfl (by first | exact Or.inl rfl | exact Or.inr rfl) (i := 5))) (fun _ _ _ _ _ => t_nil) (fun _ _ _ _ _ => c_call bkF c_is_beside hr (by decide) rfl (a_cons (c_nF (pv 5)) (a_cons (c_ix hu4 (c_nQ (pv 3)) (qF (c_int)) (fun _ _ => rfl)) (a_cons (c_nF (pv 4)) (a_nil))))) (by decide)))))))
noncomputable def g_bound_by_products : Sx := sCons (sSet 5 (fCall (aCons (nF 0) (aCons (nF 1) (aCons (nF 2) (aCons (b2 (nQ 3) (kD (.int 0)) gIx) (aNil))))) F_place_of_term)) (sCons (sSet 6 (fTup (aCons (b2 (b2 (fCall (aCons (nF 0) (aNil)) F_power_sum) (fCall (aCons (nF 4) (aNil)) F_index_in) aMul) (b2 (b2 (kD (.int k_ROUND)) (kD (.int 1)) aSub) (nQ 5) aMul) aSub) (aCons (kD (.int 1)) (aNil))))) (sCons (sFor (sqOf (fCall (aCons (nF 4) (aNil)) F_ends_of)) (bTup 3 (bsCons (bNm 7) (bsCons (bNm 8) (bsCons (bNm 9) (bsNil))))) (sIf (oB (b2 (nQ 7) (nQ 4) cNe)) (sCons (sSet 10 (fCall (aCons (nF 0) (aCons (nF 1) (aCons (nF 7) (aNil)))) F_low_of)) (sCons (sFor (sqOf (nF 3)) (bNm 11) (sCons (sSet 12 (fCall (aCons (nF 11) (aCons (nF 4) (aCons (nF 7) (aNil)))) F_weighed_squares)) (sSet 10 (iF (oB (fCall (aCons (nF 12) (aCons (nF 10) (aNil))) F_is_less_ratio)) (nF 12) (nF 10))))) (sSet 6 (fCall (aCons (nF 6) (aCons (fCall (aCons (nF 10) (aCons (fTup (aCons (b2 (b2 (kD (.int k_ROUND)) (nQ 8) aMul) (nQ 9) aMul) (aCons (kD (.int 1)) (aNil)))) (aNil))) F_product_of_two) (aNil))) F_difference_of)))) (sNil))) (sRet (fCall (aCons (nF 6) (aCons (fCall (aCons (fCall (aCons (nF 0) (aCons (nF 1) (aCons (nF 2) (aNil)))) F_rest_ratio) (aCons (fTup (aCons (kD (.int k_ROUND)) (aCons (kD (.int 1)) (aNil)))) (aNil))) F_product_of_two) (aNil))) F_difference_of))))
noncomputable def h_bound_by_products : Sx := xsCons (xsSet 5 (xfCall (xaCons (xnF 0) (xaCons (xnF 1) (xaCons (xnF 2) (xaCons (xb2 (xnQ 3) (kD (.int 0)) xIx) (aNil))))) F_place_of_term)) (xsCons (xsSet 6 (xfTup (xaCons (xb2 (xb2 (xfCall (xaCons (xnF 0) (aNil)) F_power_sum) (xfCall (xaCons (xnF 4) (aNil)) T_index_in) xMul) (xb2 (xb2 (kD (.int k_ROUND)) (kD (.int 1)) xSub) (xnQ 5) xMul) xSub) (xaCons (kD (.int 1)) (aNil))))) (xsCons (xsFor (xsqOf (xfCall (xaCons (xnF 4) (aNil)) T_ends_of)) (xbTup 3 (xbsCons (xbNm 7) (xbsCons (xbNm 8) (xbsCons (xbNm 9) (bsNil))))) (xsIf (xoB (xb2 (xnQ 7) (xnQ 4) xNe)) (xsCons (xsSet 10 (xfCall (xaCons (xnF 0) (xaCons (xnF 1) (xaCons (xnF 7) (aNil)))) F_low_of)) (xsCons (xsFor (xsqOf (xnF 3)) (xbNm 11) (xsCons (xsSet 12 (xfCall (xaCons (xnF 11) (xaCons (xnF 4) (xaCons (xnF 7) (aNil)))) F_weighed_squares)) (xsSet 10 (xiF (xoB (xfCall (xaCons (xnF 12) (xaCons (xnF 10) (aNil))) F_is_less_ratio)) (xnF 12) (xnF 10))))) (xsSet 6 (xfCall (xaCons (xnF 6) (xaCons (xfCall (xaCons (xnF 10) (xaCons (xfTup (xaCons (xb2 (xb2 (kD (.int k_ROUND)) (xnQ 8) xMul) (xnQ 9) xMul) (xaCons (kD (.int 1)) (aNil)))) (aNil))) F_product_of_two) (aNil))) F_difference_of)))) (sNil))) (xsRet (xfCall (xaCons (xnF 6) (xaCons (xfCall (xaCons (xfCall (xaCons (xnF 0) (xaCons (xnF 1) (xaCons (xnF 2) (aNil)))) F_rest_ratio) (xaCons (xfTup (xaCons (kD (.int k_ROUND)) (xaCons (kD (.int 1)) (aNil)))) (aNil))) F_product_of_two) (aNil))) F_difference_of))))
noncomputable def F_bound_by_products : List PyData → Option PyData := xrunF 13 5 h_bound_by_products
theorem hx_bound_by_products : F_bound_by_products = runF 13 5 g_bound_by_products := by
  unfold F_bound_by_products
  rw [xrunF_eq]
  congr 1
  unfold h_bound_by_products g_bound_by_products
  simp only [T_ends_of_eq, T_index_in_eq, xIx_eq, xMul_eq, xNe_eq, xSub_eq, xaCons_eq, xb2_eq, xbNm_eq, xbTup_eq, xbsCons_eq, xfCall_eq, xfTup_eq, xiF_eq, xnF_eq, xnQ_eq, xoB_eq, xsCons_eq, xsFor_eq, xsIf_eq, xsRet_eq, xsSet_eq, xsqOf_eq]
theorem sc_bound_by_products : FnScope ["product", "m", "t", "products", "level", "first", "found", "end", "often", "width", "least", "one", "late"] ["product", "m", "t", "products", "level"] (defScope (top 96)) := ⟨rfl, rfl, rfl, by decide +kernel, rfl, by decide +kernel, by decide +kernel⟩
theorem cal_bound_by_products (M : Mg mg) (FD : FunD K "bound_by_products" "bound_by_products" (defArgs (top 96)) (defBody (top 96)) (defScope (top 96)) [] [] f fd) (hm : mg "bound_by_products" = some (.ref f)) (c_difference_of : CF P w K mg base 3 "difference_of" F_difference_of) (c_ends_of : CF P w K mg base 3 "ends_of" F_ends_of) (c_index_in : CF P w K mg base 2 "index_in" F_index_in) (c_is_less_ratio : CF P w K mg base 1 "is_less_ratio" F_is_less_ratio) (c_low_of : CF P w K mg base 4 "low_of" F_low_of) (c_place_of_term : CF P w K mg base 4 "place_of_term" F_place_of_term) (c_power_sum : CF P w K mg base 1 "power_sum" F_power_sum) (c_product_of_two : CF P w K mg base 3 "product_of_two" F_product_of_two) (c_rest_ratio : CF P w K mg base 3 "rest_ratio" F_rest_ratio) (c_weighed_squares : CF P w K mg base 3 "weighed_squares" F_weighed_squares) : CF P w K mg base 5 "bound_by_products" F_bound_by_products := by
  rw [hx_bound_by_products]
  exact fn_F (g := g_bound_by_products) (k := 4) FD hm (FD.bindsN fun _ _ _ _ _ _ us hl => match us, hl with | [_, _, _, _, _], _ => rfl) sc_bound_by_products fun cdv A outer s H E hr =>
    have nd := sc_bound_by_products.nd
    have hu4 := room4 hr
    have hu5 := room5 hr
    l_cons (s_setF (i := 5) nd rfl (Or.inl rfl) (c_call bkF c_place_of_term hr (by decide) rfl (a_cons (c_nF (pv 0)) (a_cons (c_nF (pv 1)) (a_cons (c_nF (pv 2)) (a_cons (c_ix hu4 (c_nQ (pv 3)) (qF (c_int)) (fun _ _ => rfl)) (a_nil))))))) (l_cons (s_setF (i := 6) nd rfl (Or.inl rfl) (c_tup (a_cons (c_sub (qF (c_mul (qF (c_call bkF c_power_sum hr (by decide) rfl (a_cons (c_nF (pv 0)) (a_nil)))) (qF (c_call bkF c_index_in hr (by decide) rfl (a_cons (c_nF (pv 4)) (a_nil)))))) (qF (c_mul (qF (c_sub (qF (c_gint rfl M.c_ROUND)) (qF (c_int)))) (c_nQ (pv 5))))) (a_cons (c_int) (a_nil))))) (l_cons (s_for PassesOwn.never rfl (i_sq (c_call bkF c_ends_of hr (by decide) rfl (a_cons (c_nF (pv 4)) (a_nil)))) (g_tup rfl (gs_cons (g_nm (pg_name nd rfl (by first | exact Or.inl rfl | exact Or.inr rfl) (i := 7))) (gs_cons (g_nm (pg_name nd rfl (by first | exact Or.inl rfl | exact Or.inr rfl) (i := 8))) (gs_cons (g_nm (pg_name nd rfl (by first | exact Or.inl rfl | exact Or.inr rfl) (i := 9))) (gs_nil))))) (l_one (s_if (b_ne hu4 (c_nQ (pv 7)) (c_nQ (pv 4))) (l_cons (s_setF (i := 10) nd rfl (Or.inl rfl) (c_call bkF c_low_of hr (by decide) rfl (a_cons (c_nF (pv 0)) (a_cons (c_nF (pv 1)) (a_cons (c_nF (pv 7)) (a_nil)))))) (l_cons (s_for PassesOwn.never rfl (i_sq (c_nF (pv 3))) (g_nm (pg_name nd rfl (by first | exact Or.inl rfl | exact Or.inr rfl) (i := 11))) (l_cons (s_setF (i := 12) nd rfl (Or.inl rfl) (c_call bkF c_weighed_squares hr (by decide) rfl (a_cons (c_nF (pv 11)) (a_cons (c_nF (pv 4)) (a_cons (c_nF (pv 7)) (a_nil)))))) (l_one (s_setF (i := 10) nd rfl (Or.inl rfl) (c_if (b_val (c_call bkF c_is_less_ratio hr (by decide) rfl (a_cons (c_nF (pv 12)) (a_cons (c_nF (pv 10)) (a_nil))))) (c_nF (pv 12)) (c_nF (pv 10))))))) (l_one (s_setF (i := 6) nd rfl (Or.inl rfl) (c_call bkF c_difference_of hr (by decide) rfl (a_cons (c_nF (pv 6)) (a_cons (c_call bkF c_product_of_two hr (by decide) rfl (a_cons (c_nF (pv 10)) (a_cons (c_tup (a_cons (c_mul (qF (c_mul (qF (c_gint rfl M.c_ROUND)) (c_nQ (pv 8)))) (c_nQ (pv 9))) (a_cons (c_int) (a_nil)))) (a_nil)))) (a_nil)))))))) (l_nil)))) (l_one (s_retF (c_call bkF c_difference_of hr (by decide) rfl (a_cons (c_nF (pv 6)) (a_cons (c_call bkF c_product_of_two hr (by decide) rfl (a_cons (c_call bkF c_rest_ratio hr (by decide) rfl (a_cons (c_nF (pv 0)) (a_cons (c_nF (pv 1)) (a_cons (c_nF (pv 2)) (a_nil))))) (a_cons (c_tup (a_cons (c_gint rfl M.c_ROUND) (a_cons (c_int) (a_nil)))) (a_nil)))) (a_nil))))))))
noncomputable def g_right_row : Sx := sCons (sSetO 5 (b2 (fLst (aCons (kD (.int 0)) (aNil))) (nQ 4) aRep)) (sCons (sFor (sqOf (nF 3)) (bTup 2 (bsCons (bNm 6) (bsCons (bNm 7) (bsNil)))) (sCons (sSet 8 (fCall (aCons (nF 0) (aCons (nF 1) (aCons (nF 2) (aCons (nF 7) (aNil))))) F_place_of_term)) (sCons (sSet 9 (fCall (aCons (nF 7) (aCons (b2 (kD (.int 0)) (b2 (nQ 4) (nQ 8) aSub) gMax2) (aNil))) F_numbers_of)) (sFor (enOf (nF 9)) (bTup 2 (bsCons (bNm 10) (bsCons (bNm 11) (bsNil)))) (sSt 5 (b2 (nQ 8) (nQ 10) aAdd) (b2 (b2 (nQ 5) (b2 (nQ 8) (nQ 10) aAdd) gIx) (b2 (nQ 6) (nQ 11) aMul) aAdd) putQ))))) (sFz 5 (sRet (nF 5))))
noncomputable def h_right_row : Sx := xsCons (xsSetO 5 (xb2 (fLst (xaCons (kD (.int 0)) (aNil))) (xnQ 4) aRep)) (xsCons (xsFor (xsqOf (xnF 3)) (xbTup 2 (xbsCons (xbNm 6) (xbsCons (xbNm 7) (bsNil)))) (xsCons (xsSet 8 (xfCall (xaCons (xnF 0) (xaCons (xnF 1) (xaCons (xnF 2) (xaCons (xnF 7) (aNil))))) F_place_of_term)) (xsCons (xsSet 9 (xfCall (xaCons (xnF 7) (xaCons (xb2 (kD (.int 0)) (xb2 (xnQ 4) (xnQ 8) xSub) gMax2) (aNil))) F_numbers_of)) (xsFor (enOf (xnF 9)) (xbTup 2 (xbsCons (xbNm 10) (xbsCons (xbNm 11) (bsNil)))) (xsSt 5 (xb2 (xnQ 8) (xnQ 10) xAdd) (xb2 (xb2 (xnQ 5) (xb2 (xnQ 8) (xnQ 10) xAdd) xIx) (xb2 (xnQ 6) (xnQ 11) xMul) xAdd) xputQ))))) (xsFz 5 (xsRet (xnF 5))))
noncomputable def F_right_row : List PyData → Option PyData := xrunF 12 5 h_right_row
theorem hx_right_row : F_right_row = runF 12 5 g_right_row := by
  unfold F_right_row
  rw [xrunF_eq]
  congr 1
  unfold h_right_row g_right_row
  simp only [xAdd_eq, xIx_eq, xMul_eq, xSub_eq, xaCons_eq, xb2_eq, xbNm_eq, xbTup_eq, xbsCons_eq, xfCall_eq, xnF_eq, xnQ_eq, xputQ_eq, xsCons_eq, xsFor_eq, xsFz_eq, xsRet_eq, xsSet_eq, xsSetO_eq, xsSt_eq, xsqOf_eq]
theorem sc_right_row : FnScope ["product", "m", "t", "terms", "many", "found", "coefficient", "one", "place", "row", "at", "number"] ["product", "m", "t", "terms", "many"] (defScope (top 99)) := ⟨rfl, rfl, rfl, by decide +kernel, rfl, by decide +kernel, by decide +kernel⟩
theorem cal_right_row (M : Mg mg) (FD : FunD K "right_row" "right_row" (defArgs (top 99)) (defBody (top 99)) (defScope (top 99)) [] [] f fd) (hm : mg "right_row" = some (.ref f)) (c_numbers_of : CF P w K mg base 3 "numbers_of" F_numbers_of) (c_place_of_term : CF P w K mg base 4 "place_of_term" F_place_of_term) : CF P w K mg base 5 "right_row" F_right_row := by
  rw [hx_right_row]
  exact fn_F (g := g_right_row) (k := 4) FD hm (FD.bindsN fun _ _ _ _ _ _ us hl => match us, hl with | [_, _, _, _, _], _ => rfl) sc_right_row fun cdv A outer s H E hr =>
    have nd := sc_right_row.nd
    have hu4 := room4 hr
    have hu5 := room5 hr
    l_cons (s_setO (i := 5) nd rfl (Or.inl rfl) (c_rep (wO (c_lst (a_cons (c_int) (a_nil)))) (c_nQ (pv 4)))) (l_cons (s_for PassesOwn.never rfl (i_sq (c_nF (pv 3))) (g_tup rfl (gs_cons (g_nm (pg_name nd rfl (by first | exact Or.inl rfl | exact Or.inr rfl) (i := 6))) (gs_cons (g_nm (pg_name nd rfl (by first | exact Or.inl rfl | exact Or.inr rfl) (i := 7))) (gs_nil)))) (l_cons (s_setF (i := 8) nd rfl (Or.inl rfl) (c_call bkF c_place_of_term hr (by decide) rfl (a_cons (c_nF (pv 0)) (a_cons (c_nF (pv 1)) (a_cons (c_nF (pv 2)) (a_cons (c_nF (pv 7)) (a_nil))))))) (l_cons (s_setF (i := 9) nd rfl (Or.inl rfl) (c_call bkF c_numbers_of hr (by decide) rfl (a_cons (c_nF (pv 7)) (a_cons (c_max2 rfl rfl M.b_max (qF (c_int)) (qF (c_sub (c_nQ (pv 4)) (c_nQ (pv 8))))) (a_nil))))) (l_one (s_for PassesOwn.never rfl (i_enum rfl M.b_enumerate (c_nF (pv 9))) (g_tup rfl (gs_cons (g_nm (pg_name nd rfl (by first | exact Or.inl rfl | exact Or.inr rfl) (i := 10))) (gs_cons (g_nm (pg_name nd rfl (by first | exact Or.inl rfl | exact Or.inr rfl) (i := 11))) (gs_nil)))) (l_one (s_lput (pv 5) (qF (c_add (c_nQ (pv 8)) (c_nQ (pv 10)))) (c_add (qF (c_ix hu4 (c_nQ (pv 5)) (qF (c_add (c_nQ (pv 8)) (c_nQ (pv 10)))) (fun _ _ => rfl))) (qF (c_mul (c_nQ (pv 6)) (c_nQ (pv 11)))))))))))) (l_one (s_fz 5 (s_retF (c_nF (pv 5))))))
end
end Q7

-- part Ri
set_option Elab.async false
set_option linter.all false
set_option maxRecDepth 100000
set_option maxHeartbeats 0
namespace Q7
open PySem PySem.Spec PyProof.Rows L2
open C8 (Cal pe_c)
section
variable {P : Program} {w : World} {K : PySem.W.Frag} {mg : Str → Option Value} {base : Heap} {f : Addr} {fd : FuncData}
noncomputable def g_coefficients_of : Sx := sCons (sFzA 4 (sSetO 4 (fLc (sqOf (nF 3)) (bNm 8) (bYes) (fCall (aCons (nF 0) (aCons (nF 1) (aCons (nF 2) (aCons (nF 8) (aNil))))) F_place_of_term) [8]))) (sCons (sPar2 5 6 true true (fCall (aCons (nF 0) (aCons (nF 1) (aCons (nF 2) (aCons (b2 (b2 (nQ 4) (u1 (kD (.int 1)) aNeg) gIx) (kD (.int 1)) aAdd) (aNil))))) F_left_row) (fLst (aNil))) (sCons (sFor (zpOf (nF 4) (nF 3)) (bTup 2 (bsCons (bNm 7) (bsCons (bNm 8) (bsNil)))) (sCons (sSet 9 (b2 (nQ 5) (nQ 7) gIx)) (sCons (sApp 6 (fTup (aCons (nF 9) (aCons (nF 8) (aNil))))) (sFor (enOf (fCall (aCons (nF 8) (aCons (b2 (u1 (nQ 5) gLen) (nQ 7) aSub) (aNil))) F_numbers_of)) (bTup 2 (bsCons (bNm 10) (bsCons (bNm 11) (bsNil)))) (sSt 5 (b2 (nQ 7) (nQ 10) aAdd) (b2 (b2 (nQ 5) (b2 (nQ 7) (nQ 10) aAdd) gIx) (b2 (nQ 9) (nQ 11) aMul) aSub) putQ))))) (sFz 6 (sRet (nF 6)))))
noncomputable def h_coefficients_of : Sx := xsCons (sFzA 4 (xsSetO 4 (xfLc (xsqOf (xnF 3)) (xbNm 8) (bYes) (xfCall (xaCons (xnF 0) (xaCons (xnF 1) (xaCons (xnF 2) (xaCons (xnF 8) (aNil))))) F_place_of_term) [8]))) (xsCons (xsPar2 5 6 true true (xfCall (xaCons (xnF 0) (xaCons (xnF 1) (xaCons (xnF 2) (xaCons (xb2 (xb2 (xnQ 4) (xu1 (kD (.int 1)) aNeg) xIx) (kD (.int 1)) xAdd) (aNil))))) F_left_row) (fLst (aNil))) (xsCons (xsFor (zpOf (xnF 4) (xnF 3)) (xbTup 2 (xbsCons (xbNm 7) (xbsCons (xbNm 8) (bsNil)))) (xsCons (xsSet 9 (xb2 (xnQ 5) (xnQ 7) xIx)) (xsCons (xsApp 6 (xfTup (xaCons (xnF 9) (xaCons (xnF 8) (aNil))))) (xsFor (enOf (xfCall (xaCons (xnF 8) (xaCons (xb2 (xu1 (xnQ 5) gLen) (xnQ 7) xSub) (aNil))) F_numbers_of)) (xbTup 2 (xbsCons (xbNm 10) (xbsCons (xbNm 11) (bsNil)))) (xsSt 5 (xb2 (xnQ 7) (xnQ 10) xAdd) (xb2 (xb2 (xnQ 5) (xb2 (xnQ 7) (xnQ 10) xAdd) xIx) (xb2 (xnQ 9) (xnQ 11) xMul) xSub) xputQ))))) (xsFz 6 (xsRet (xnF 6)))))
noncomputable def F_coefficients_of : List PyData → Option PyData := xrunF 12 4 h_coefficients_of
theorem hx_coefficients_of : F_coefficients_of = runF 12 4 g_coefficients_of := by
  unfold F_coefficients_of
  rw [xrunF_eq]
  congr 1
  unfold h_coefficients_of g_coefficients_of
  simp only [xAdd_eq, xIx_eq, xMul_eq, xSub_eq, xaCons_eq, xb2_eq, xbNm_eq, xbTup_eq, xbsCons_eq, xfCall_eq, xfLc_eq, xfTup_eq, xnF_eq, xnQ_eq, xputQ_eq, xsApp_eq, xsCons_eq, xsFor_eq, xsFz_eq, xsPar2_eq, xsRet_eq, xsSet_eq, xsSetO_eq, xsSt_eq, xsqOf_eq, xu1_eq]
theorem sc_coefficients_of : FnScope ["product", "m", "t", "products", "places", "left", "found", "place", "one", "number", "at", "late"] ["product", "m", "t", "products"] (defScope (top 104)) := ⟨rfl, rfl, rfl, by decide +kernel, rfl, by decide +kernel, by decide +kernel⟩
theorem cal_coefficients_of (M : Mg mg) (FD : FunD K "coefficients_of" "coefficients_of" (defArgs (top 104)) (defBody (top 104)) (defScope (top 104)) [] [] f fd) (hm : mg "coefficients_of" = some (.ref f)) (c_left_row : CO P w K mg base 4 "left_row" F_left_row) (c_numbers_of : CF P w K mg base 3 "numbers_of" F_numbers_of) (c_place_of_term : CF P w K mg base 4 "place_of_term" F_place_of_term) : CF P w K mg base 5 "coefficients_of" F_coefficients_of := by
  rw [hx_coefficients_of]
  exact fn_F (g := g_coefficients_of) (k := 4) FD hm (FD.bindsN fun _ _ _ _ _ _ us hl => match us, hl with | [_, _, _, _], _ => rfl) sc_coefficients_of fun cdv A outer s H E hr =>
    have nd := sc_coefficients_of.nd
    have hu4 := room4 hr
    have hu5 := room5 hr
    l_cons (s_fzA (s_lc (i := 4) (own := [("one", 8)]) rfl nd rfl rfl rfl (i_sq (c_nF (pv 3))) (blkOk_by (N := ["product", "m", "t", "products", "places", "left", "found", "place", "one", "number", "at", "late"]) (sc := defScope (top 104)) (by decide +kernel)) (fun _ _ _ _ _ => g_nm (pg_name nd rfl (by first | exact Or.inl rfl | exact Or.inr rfl) (i := 8))) (fun _ _ _ _ _ => t_nil) (fun _ _ _ _ _ => c_call bkF c_place_of_term hr (by decide) rfl (a_cons (c_nF (pv 0)) (a_cons (c_nF (pv 1)) (a_cons (c_nF (pv 2)) (a_cons (c_nF (pv 8)) (a_nil)))))) (by decide))) (l_cons (s_par2 (o1 := true) (o2 := true) (i := 5) (j := 6) rfl nd rfl rfl (by decide) rfl rfl (c_call bkO c_left_row hr (by decide) rfl (a_cons (c_nF (pv 0)) (a_cons (c_nF (pv 1)) (a_cons (c_nF (pv 2)) (a_cons (c_add (qF (c_ix hu4 (c_nQ (pv 4)) (qF (c_neg (qF (c_int)))) (fun _ _ => rfl))) (qF (c_int))) (a_nil)))))) (c_lst (a_nil)) rfl) (l_cons (s_for PassesOwn.never rfl (i_zip rfl M.b_zip (c_nF (pv 4)) (c_nF (pv 3))) (g_tup rfl (gs_cons (g_nm (pg_name nd rfl (by first | exact Or.inl rfl | exact Or.inr rfl) (i := 7))) (gs_cons (g_nm (pg_name nd rfl (by first | exact Or.inl rfl | exact Or.inr rfl) (i := 8))) (gs_nil)))) (l_cons (s_setF (i := 9) nd rfl (Or.inl rfl) (c_ix hu4 (c_nQ (pv 5)) (c_nQ (pv 7)) (fun _ _ => rfl))) (l_cons (s_app (pe_bm PySem.F.plainAttrs_list PySem.F.slot_list_append PySem.F.type_list_append mt_append (pv 6) (pa_cons (c_tup (a_cons (c_nF (pv 9)) (a_cons (c_nF (pv 8)) (a_nil)))) pa_nil))) (l_one (s_for PassesOwn.never rfl (i_enum rfl M.b_enumerate (c_call bkF c_numbers_of hr (by decide) rfl (a_cons (c_nF (pv 8)) (a_cons (c_sub (qF (c_len rfl M.b_len (c_nQ (pv 5)))) (c_nQ (pv 7))) (a_nil))))) (g_tup rfl (gs_cons (g_nm (pg_name nd rfl (by first | exact Or.inl rfl | exact Or.inr rfl) (i := 10))) (gs_cons (g_nm (pg_name nd rfl (by first | exact Or.inl rfl | exact Or.inr rfl) (i := 11))) (gs_nil)))) (l_one (s_lput (pv 5) (qF (c_add (c_nQ (pv 7)) (c_nQ (pv 10)))) (c_sub (qF (c_ix hu4 (c_nQ (pv 5)) (qF (c_add (c_nQ (pv 7)) (c_nQ (pv 10)))) (fun _ _ => rfl))) (qF (c_mul (c_nQ (pv 9)) (c_nQ (pv 11)))))))))))) (l_one (s_fz 6 (s_retF (c_nF (pv 6)))))))
noncomputable def g_chosen_of : Sx := sCons (sSetO 6 (fLst (aNil))) (sCons (sFor (sqOf (fCall (aCons (nF 4) (aCons (fCall (aCons (nF 0) (aNil)) F_power_sum) (aCons (nF 5) (aNil)))) F_rows_of_powers)) (bNm 7) (sCons (sSet 9 (fCall (aCons (nF 4) (aCons (nF 7) (aNil))) F_product_of_row)) (sCons (sSet 10 (fCall (aCons (nF 0) (aCons (nF 1) (aCons (nF 2) (aCons (nF 9) (aNil))))) F_place_of_term)) (sIf (bAnd (oB (b2 (nQ 10) (kD .none) cNotN)) (oB (b2 (u1 (b2 (nQ 9) (kD (.int 1)) gIx) gLen) (kD (.int k_MOST_STEPS)) cLe))) (sApp 6 (fTup (aCons (nF 10) (aCons (nF 9) (aNil))))) (sNil))))) (sCons (sSetO 8 (fLst (aNil))) (sCons (sFor (sqOf (u1 (nQ 6) gSortD)) (bTup 2 (bsCons (bNm 10) (bsCons (bNm 9) (bsNil)))) (sIf (bAnd (oB (b2 (u1 (nQ 8) gLen) (kD (.int k_MOST_TERMS)) cLt)) (bOr (oB (b2 (nQ 8) (fLst (aNil)) cEqE)) (bAnd (oB (b2 (nQ 10) (b2 (b2 (nQ 8) (u1 (kD (.int 1)) aNeg) gIx) (kD (.int 0)) gIx) cGt)) (oB (fCall (aCons (nF 9) (aCons (b2 (b2 (nQ 8) (kD (.int 0)) gIx) (kD (.int 1)) gIx) (aCons (nF 3) (aNil)))) F_is_beside))))) (sApp 8 (fTup (aCons (nF 10) (aCons (nF 9) (aNil))))) (sNil))) (sRet (nW 8)))))
noncomputable def h_chosen_of : Sx := xsCons (xsSetO 6 (fLst (aNil))) (xsCons (xsFor (xsqOf (xfCall (xaCons (xnF 4) (xaCons (xfCall (xaCons (xnF 0) (aNil)) F_power_sum) (xaCons (xnF 5) (aNil)))) F_rows_of_powers)) (xbNm 7) (xsCons (xsSet 9 (xfCall (xaCons (xnF 4) (xaCons (xnF 7) (aNil))) F_product_of_row)) (xsCons (xsSet 10 (xfCall (xaCons (xnF 0) (xaCons (xnF 1) (xaCons (xnF 2) (xaCons (xnF 9) (aNil))))) F_place_of_term)) (xsIf (xbAnd (xoB (xb2 (xnQ 10) (kD .none) cNotN)) (xoB (xb2 (xu1 (xb2 (xnQ 9) (kD (.int 1)) xIx) gLen) (kD (.int k_MOST_STEPS)) xLe))) (xsApp 6 (xfTup (xaCons (xnF 10) (xaCons (xnF 9) (aNil))))) (sNil))))) (xsCons (xsSetO 8 (fLst (aNil))) (xsCons (xsFor (xsqOf (xu1 (xnQ 6) gSortD)) (xbTup 2 (xbsCons (xbNm 10) (xbsCons (xbNm 9) (bsNil)))) (xsIf (xbAnd (xoB (xb2 (xu1 (xnQ 8) gLen) (kD (.int k_MOST_TERMS)) xLt)) (xbOr (xoB (xb2 (xnQ 8) (fLst (aNil)) cEqE)) (xbAnd (xoB (xb2 (xnQ 10) (xb2 (xb2 (xnQ 8) (xu1 (kD (.int 1)) aNeg) xIx) (kD (.int 0)) xIx) xGt)) (xoB (xfCall (xaCons (xnF 9) (xaCons (xb2 (xb2 (xnQ 8) (kD (.int 0)) xIx) (kD (.int 1)) xIx) (xaCons (xnF 3) (aNil)))) F_is_beside))))) (xsApp 8 (xfTup (xaCons (xnF 10) (xaCons (xnF 9) (aNil))))) (sNil))) (xsRet (xnW 8)))))
noncomputable def F_chosen_of : List PyData → Option PyData := xrunO 11 6 h_chosen_of
theorem hx_chosen_of : F_chosen_of = runO 11 6 g_chosen_of := by
  unfold F_chosen_of
  rw [xrunO_eq]
  congr 1
  unfold h_chosen_of g_chosen_of
  simp only [xGt_eq, xIx_eq, xLe_eq, xLt_eq, xaCons_eq, xb2_eq, xbAnd_eq, xbNm_eq, xbOr_eq, xbTup_eq, xbsCons_eq, xfCall_eq, xfTup_eq, xnF_eq, xnQ_eq, xnW_eq, xoB_eq, xsApp_eq, xsCons_eq, xsFor_eq, xsIf_eq, xsRet_eq, xsSet_eq, xsSetO_eq, xsqOf_eq, xu1_eq]
theorem sc_chosen_of : FnScope ["product", "m", "t", "level", "steps", "many", "some", "row", "found", "one", "place"] ["product", "m", "t", "level", "steps", "many"] (defScope (top 106)) := ⟨rfl, rfl, rfl, by decide +kernel, rfl, by decide +kernel, by decide +kernel⟩
theorem cal_chosen_of (M : Mg mg) (FD : FunD K "chosen_of" "chosen_of" (defArgs (top 106)) (defBody (top 106)) (defScope (top 106)) [] [] f fd) (hm : mg "chosen_of" = some (.ref f)) (c_is_beside : CF P w K mg base 3 "is_beside" F_is_beside) (c_place_of_term : CF P w K mg base 4 "place_of_term" F_place_of_term) (c_power_sum : CF P w K mg base 1 "power_sum" F_power_sum) (c_product_of_row : CF P w K mg base 1 "product_of_row" F_product_of_row) (c_rows_of_powers : CF P w K mg base 1 "rows_of_powers" F_rows_of_powers) : CO P w K mg base 5 "chosen_of" F_chosen_of := by
  rw [hx_chosen_of]
  exact fn_O (g := g_chosen_of) (k := 4) FD hm (FD.bindsN fun _ _ _ _ _ _ us hl => match us, hl with | [_, _, _, _, _, _], _ => rfl) sc_chosen_of fun cdv A outer s H E hr =>
    have nd := sc_chosen_of.nd
    have hu4 := room4 hr
    have hu5 := room5 hr
    l_cons (s_setO (i := 6) nd rfl (Or.inl rfl) (c_lst (a_nil))) (l_cons (s_for PassesOwn.never rfl (i_sq (c_call bkF c_rows_of_powers hr (by decide) rfl (a_cons (c_nF (pv 4)) (a_cons (c_call bkF c_power_sum hr (by decide) rfl (a_cons (c_nF (pv 0)) (a_nil))) (a_cons (c_nF (pv 5)) (a_nil)))))) (g_nm (pg_name nd rfl (by first | exact Or.inl rfl | exact Or.inr rfl) (i := 7))) (l_cons (s_setF (i := 9) nd rfl (Or.inl rfl) (c_call bkF c_product_of_row hr (by decide) rfl (a_cons (c_nF (pv 4)) (a_cons (c_nF (pv 7)) (a_nil))))) (l_cons (s_setF (i := 10) nd rfl (Or.inl rfl) (c_call bkF c_place_of_term hr (by decide) rfl (a_cons (c_nF (pv 0)) (a_cons (c_nF (pv 1)) (a_cons (c_nF (pv 2)) (a_cons (c_nF (pv 9)) (a_nil))))))) (l_one (s_if (b_w (w_and (b_notN (c_nQ (pv 10)) (qF (c_none))) (w_and1 (b_le (qF (c_len rfl M.b_len (qF (c_ix hu4 (c_nQ (pv 9)) (qF (c_int)) (fun _ _ => rfl))))) (qF (c_gint rfl M.c_MOST_STEPS)))))) (l_one (s_app (pe_bm PySem.F.plainAttrs_list PySem.F.slot_list_append PySem.F.type_list_append mt_append (pv 6) (pa_cons (c_tup (a_cons (c_nF (pv 10)) (a_cons (c_nF (pv 9)) (a_nil)))) pa_nil)))) (l_nil)))))) (l_cons (s_setO (i := 8) nd rfl (Or.inl rfl) (c_lst (a_nil))) (l_cons (s_for PassesOwn.never rfl (i_sq (fO (c_sortD hu5 rfl M.b_sorted (c_nQ (pv 6))))) (g_tup rfl (gs_cons (g_nm (pg_name nd rfl (by first | exact Or.inl rfl | exact Or.inr rfl) (i := 10))) (gs_cons (g_nm (pg_name nd rfl (by first | exact Or.inl rfl | exact Or.inr rfl) (i := 9))) (gs_nil)))) (l_one (s_if (b_w (w_and (b_lt (qF (c_len rfl M.b_len (c_nQ (pv 8)))) (qF (c_gint rfl M.c_MOST_TERMS))) (w_and1 (b_w (w_or (b_eqE hu4 (c_nQ (pv 8)) (qO (c_lst (a_nil)))) (w_or1 (b_w (w_and (b_gt (c_nQ (pv 10)) (qF (c_ix hu4 (qF (c_ix hu4 (c_nQ (pv 8)) (qF (c_neg (qF (c_int)))) (fun _ _ => rfl))) (qF (c_int)) (fun _ _ => rfl)))) (w_and1 (b_val (c_call bkF c_is_beside hr (by decide) rfl (a_cons (c_nF (pv 9)) (a_cons (c_ix hu4 (qF (c_ix hu4 (c_nQ (pv 8)) (qF (c_int)) (fun _ _ => rfl))) (qF (c_int)) (fun _ _ => rfl)) (a_cons (c_nF (pv 3)) (a_nil))))))))))))))) (l_one (s_app (pe_bm PySem.F.plainAttrs_list PySem.F.slot_list_append PySem.F.type_list_append mt_append (pv 8) (pa_cons (c_tup (a_cons (c_nF (pv 10)) (a_cons (c_nF (pv 9)) (a_nil)))) pa_nil)))) (l_nil)))) (l_one (s_retW (f := nW 8) (pv 8))))))
noncomputable def g__law_least_level : Sx := sCons (sFor (r2Of (kD (.int 1)) (kD (.int 121))) (bNm 4) (sIf (oB (fCall (aCons (nF 0) (aCons (nF 1) (aCons (nF 2) (aCons (nF 3) (aCons (nF 4) (aNil)))))) F__law_serves_all)) (sRet (nF 4)) (sNil))) (sRet (kD .none))
noncomputable def h__law_least_level : Sx := xsCons (xsFor (xr2 (kD (.int 1)) (kD (.int 121))) (xbNm 4) (xsIf (xoB (xfCall (xaCons (xnF 0) (xaCons (xnF 1) (xaCons (xnF 2) (xaCons (xnF 3) (xaCons (xnF 4) (aNil)))))) F__law_serves_all)) (xsRet (xnF 4)) (sNil))) (xsRet (kD .none))
noncomputable def F__law_least_level : List PyData → Option PyData := xrunF 5 4 h__law_least_level
theorem hx__law_least_level : F__law_least_level = runF 5 4 g__law_least_level := by
  unfold F__law_least_level
  rw [xrunF_eq]
  congr 1
  unfold h__law_least_level g__law_least_level
  simp only [xaCons_eq, xbNm_eq, xfCall_eq, xnF_eq, xoB_eq, xr2_eq, xsCons_eq, xsFor_eq, xsIf_eq, xsRet_eq]
theorem sc__law_least_level : FnScope ["_law_powers", "_law_m", "_law_t", "_law_terms", "_law_level"] ["_law_powers", "_law_m", "_law_t", "_law_terms"] (defScope (top 135)) := ⟨rfl, rfl, rfl, by decide +kernel, rfl, by decide +kernel, by decide +kernel⟩
theorem cal__law_least_level (M : Mg mg) (FD : FunD K "_law_least_level" "_law_least_level" (defArgs (top 135)) (defBody (top 135)) (defScope (top 135)) [] [] f fd) (hm : mg "_law_least_level" = some (.ref f)) (c__law_serves_all : CF P w K mg base 4 "_law_serves_all" F__law_serves_all) : CF P w K mg base 5 "_law_least_level" F__law_least_level := by
  rw [hx__law_least_level]
  exact fn_F (g := g__law_least_level) (k := 4) FD hm (FD.bindsN fun _ _ _ _ _ _ us hl => match us, hl with | [_, _, _, _], _ => rfl) sc__law_least_level fun cdv A outer s H E hr =>
    have nd := sc__law_least_level.nd
    have hu4 := room4 hr
    have hu5 := room5 hr
    l_cons (s_for PassesOwn.never rfl (i_rg2 rfl M.b_range (qF (c_int)) (qF (c_int))) (g_nm (pg_name nd rfl (by first | exact Or.inl rfl | exact Or.inr rfl) (i := 4))) (l_one (s_if (b_val (c_call bkF c__law_serves_all hr (by decide) rfl (a_cons (c_nF (pv 0)) (a_cons (c_nF (pv 1)) (a_cons (c_nF (pv 2)) (a_cons (c_nF (pv 3)) (a_cons (c_nF (pv 4)) (a_nil)))))))) (l_one (s_retF (c_nF (pv 4)))) (l_nil)))) (l_one (s_retF (c_none)))
noncomputable def g__law_bound : Sx := sCons (sPar2 6 7 false false (fCall (aCons (nF 0) (aCons (nF 1) (aCons (nF 2) (aNil)))) F__law_x) (fCall (aCons (nF 0) (aCons (nF 1) (aCons (nF 2) (aCons (b2 (b2 (nQ 3) (kD (.int 0)) gIx) (kD (.int 1)) gIx) (aNil))))) F__law_place)) (sCons (sSet 5 (fTup (aCons (b2 (b2 (fCall (aCons (nF 0) (aNil)) F__law_power_sum) (fCall (aCons (nF 4) (aNil)) F__law_index) aMul) (b2 (kD (.int 23)) (nQ 7) aMul) aSub) (aCons (kD (.int 1)) (aNil))))) (sCons (sSet 5 (fCall (aCons (nF 5) (aCons (fCall (aCons (b2 (u1 (kD (.int 24)) aNeg) (b2 (nQ 6) (kD (.int 0)) gIx) aMul) (aCons (b2 (nQ 6) (kD (.int 1)) gIx) (aNil))) F__law_ratio) (aNil))) F__law_plus)) (sCons (sFor (sqOf (fCall (aCons (nF 4) (aNil)) F__law_ends)) (bTup 3 (bsCons (bNm 8) (bsCons (bNm 9) (bsCons (bNm 10) (bsNil))))) (sIf (oB (b2 (nQ 8) (nQ 4) cNe)) (sCons (sSet 11 (fCall (aCons (nF 0) (aCons (nF 1) (aCons (nF 8) (aNil)))) F__law_low)) (sCons (sFor (sqOf (nF 3)) (bTup 2 (bsCons (bNm 12) (bsCons (bNm 13) (bsNil)))) (sCons (sSet 14 (fCall (aCons (nF 13) (aCons (nF 8) (aNil))) F__law_slope)) (sSet 11 (iF (oB (fCall (aCons (nF 14) (aCons (nF 11) (aNil))) F__law_is_less)) (nF 14) (nF 11))))) (sSet 5 (fCall (aCons (nF 5) (aCons (fCall (aCons (b2 (b2 (b2 (u1 (kD (.int 24)) aNeg) (nQ 9) aMul) (nQ 10) aMul) (b2 (nQ 11) (kD (.int 0)) gIx) aMul) (aCons (b2 (nQ 11) (kD (.int 1)) gIx) (aNil))) F__law_ratio) (aNil))) F__law_plus)))) (sNil))) (sRet (nF 5)))))
noncomputable def h__law_bound : Sx := xsCons (xsPar2 6 7 false false (xfCall (xaCons (xnF 0) (xaCons (xnF 1) (xaCons (xnF 2) (aNil)))) F__law_x) (xfCall (xaCons (xnF 0) (xaCons (xnF 1) (xaCons (xnF 2) (xaCons (xb2 (xb2 (xnQ 3) (kD (.int 0)) xIx) (kD (.int 1)) xIx) (aNil))))) F__law_place)) (xsCons (xsSet 5 (xfTup (xaCons (xb2 (xb2 (xfCall (xaCons (xnF 0) (aNil)) F__law_power_sum) (xfCall (xaCons (xnF 4) (aNil)) T__law_index) xMul) (xb2 (kD (.int 23)) (xnQ 7) xMul) xSub) (xaCons (kD (.int 1)) (aNil))))) (xsCons (xsSet 5 (xfCall (xaCons (xnF 5) (xaCons (xfCall (xaCons (xb2 (xu1 (kD (.int 24)) aNeg) (xb2 (xnQ 6) (kD (.int 0)) xIx) xMul) (xaCons (xb2 (xnQ 6) (kD (.int 1)) xIx) (aNil))) T__law_ratio) (aNil))) T__law_plus)) (xsCons (xsFor (xsqOf (xfCall (xaCons (xnF 4) (aNil)) T__law_ends)) (xbTup 3 (xbsCons (xbNm 8) (xbsCons (xbNm 9) (xbsCons (xbNm 10) (bsNil))))) (xsIf (xoB (xb2 (xnQ 8) (xnQ 4) xNe)) (xsCons (xsSet 11 (xfCall (xaCons (xnF 0) (xaCons (xnF 1) (xaCons (xnF 8) (aNil)))) F__law_low)) (xsCons (xsFor (xsqOf (xnF 3)) (xbTup 2 (xbsCons (xbNm 12) (xbsCons (xbNm 13) (bsNil)))) (xsCons (xsSet 14 (xfCall (xaCons (xnF 13) (xaCons (xnF 8) (aNil))) F__law_slope)) (xsSet 11 (xiF (xoB (xfCall (xaCons (xnF 14) (xaCons (xnF 11) (aNil))) F__law_is_less)) (xnF 14) (xnF 11))))) (xsSet 5 (xfCall (xaCons (xnF 5) (xaCons (xfCall (xaCons (xb2 (xb2 (xb2 (xu1 (kD (.int 24)) aNeg) (xnQ 9) xMul) (xnQ 10) xMul) (xb2 (xnQ 11) (kD (.int 0)) xIx) xMul) (xaCons (xb2 (xnQ 11) (kD (.int 1)) xIx) (aNil))) T__law_ratio) (aNil))) T__law_plus)))) (sNil))) (xsRet (xnF 5)))))
noncomputable def F__law_bound : List PyData → Option PyData := xrunF 15 5 h__law_bound
theorem hx__law_bound : F__law_bound = runF 15 5 g__law_bound := by
  unfold F__law_bound
  rw [xrunF_eq]
  congr 1
  unfold h__law_bound g__law_bound
  simp only [T__law_ends_eq, T__law_index_eq, T__law_plus_eq, T__law_ratio_eq, xIx_eq, xMul_eq, xNe_eq, xSub_eq, xaCons_eq, xb2_eq, xbNm_eq, xbTup_eq, xbsCons_eq, xfCall_eq, xfTup_eq, xiF_eq, xnF_eq, xnQ_eq, xoB_eq, xsCons_eq, xsFor_eq, xsIf_eq, xsPar2_eq, xsRet_eq, xsSet_eq, xsqOf_eq, xu1_eq]
theorem sc__law_bound : FnScope ["_law_powers", "_law_m", "_law_t", "_law_terms", "_law_level", "_law_found", "_law_x_here", "_law_place_here", "_law_end", "_law_many", "_law_width", "_law_least", "_law_number", "_law_one", "_law_late"] ["_law_powers", "_law_m", "_law_t", "_law_terms", "_law_level"] (defScope (top 137)) := ⟨rfl, rfl, rfl, by decide +kernel, rfl, by decide +kernel, by decide +kernel⟩
theorem cal__law_bound (M : Mg mg) (FD : FunD K "_law_bound" "_law_bound" (defArgs (top 137)) (defBody (top 137)) (defScope (top 137)) [] [] f fd) (hm : mg "_law_bound" = some (.ref f)) (c__law_ends : CF P w K mg base 2 "_law_ends" F__law_ends) (c__law_index : CF P w K mg base 1 "_law_index" F__law_index) (c__law_is_less : CF P w K mg base 1 "_law_is_less" F__law_is_less) (c__law_low : CF P w K mg base 4 "_law_low" F__law_low) (c__law_place : CF P w K mg base 4 "_law_place" F__law_place) (c__law_plus : CF P w K mg base 3 "_law_plus" F__law_plus) (c__law_power_sum : CF P w K mg base 1 "_law_power_sum" F__law_power_sum) (c__law_ratio : CF P w K mg base 2 "_law_ratio" F__law_ratio) (c__law_slope : CF P w K mg base 4 "_law_slope" F__law_slope) (c__law_x : CF P w K mg base 3 "_law_x" F__law_x) : CF P w K mg base 5 "_law_bound" F__law_bound := by
  rw [hx__law_bound]
  exact fn_F (g := g__law_bound) (k := 4) FD hm (FD.bindsN fun _ _ _ _ _ _ us hl => match us, hl with | [_, _, _, _, _], _ => rfl) sc__law_bound fun cdv A outer s H E hr =>
    have nd := sc__law_bound.nd
    have hu4 := room4 hr
    have hu5 := room5 hr
    l_cons (s_par2 (o1 := false) (o2 := false) (i := 6) (j := 7) rfl nd rfl rfl (by decide) rfl rfl (c_call bkF c__law_x hr (by decide) rfl (a_cons (c_nF (pv 0)) (a_cons (c_nF (pv 1)) (a_cons (c_nF (pv 2)) (a_nil))))) (c_call bkF c__law_place hr (by decide) rfl (a_cons (c_nF (pv 0)) (a_cons (c_nF (pv 1)) (a_cons (c_nF (pv 2)) (a_cons (c_ix hu4 (qF (c_ix hu4 (c_nQ (pv 3)) (qF (c_int)) (fun _ _ => rfl))) (qF (c_int)) (fun _ _ => rfl)) (a_nil)))))) rfl) (l_cons (s_setF (i := 5) nd rfl (Or.inl rfl) (c_tup (a_cons (c_sub (qF (c_mul (qF (c_call bkF c__law_power_sum hr (by decide) rfl (a_cons (c_nF (pv 0)) (a_nil)))) (qF (c_call bkF c__law_index hr (by decide) rfl (a_cons (c_nF (pv 4)) (a_nil)))))) (qF (c_mul (qF (c_int)) (c_nQ (pv 7))))) (a_cons (c_int) (a_nil))))) (l_cons (s_setF (i := 5) nd rfl (Or.inl rfl) (c_call bkF c__law_plus hr (by decide) rfl (a_cons (c_nF (pv 5)) (a_cons (c_call bkF c__law_ratio hr (by decide) rfl (a_cons (c_mul (qF (c_neg (qF (c_int)))) (qF (c_ix hu4 (c_nQ (pv 6)) (qF (c_int)) (fun _ _ => rfl)))) (a_cons (c_ix hu4 (c_nQ (pv 6)) (qF (c_int)) (fun _ _ => rfl)) (a_nil)))) (a_nil))))) (l_cons (s_for PassesOwn.never rfl (i_sq (c_call bkF c__law_ends hr (by decide) rfl (a_cons (c_nF (pv 4)) (a_nil)))) (g_tup rfl (gs_cons (g_nm (pg_name nd rfl (by first | exact Or.inl rfl | exact Or.inr rfl) (i := 8))) (gs_cons (g_nm (pg_name nd rfl (by first | exact Or.inl rfl | exact Or.inr rfl) (i := 9))) (gs_cons (g_nm (pg_name nd rfl (by first | exact Or.inl rfl | exact Or.inr rfl) (i := 10))) (gs_nil))))) (l_one (s_if (b_ne hu4 (c_nQ (pv 8)) (c_nQ (pv 4))) (l_cons (s_setF (i := 11) nd rfl (Or.inl rfl) (c_call bkF c__law_low hr (by decide) rfl (a_cons (c_nF (pv 0)) (a_cons (c_nF (pv 1)) (a_cons (c_nF (pv 8)) (a_nil)))))) (l_cons (s_for PassesOwn.never rfl (i_sq (c_nF (pv 3))) (g_tup rfl (gs_cons (g_nm (pg_name nd rfl (by first | exact Or.inl rfl | exact Or.inr rfl) (i := 12))) (gs_cons (g_nm (pg_name nd rfl (by first | exact Or.inl rfl | exact Or.inr rfl) (i := 13))) (gs_nil)))) (l_cons (s_setF (i := 14) nd rfl (Or.inl rfl) (c_call bkF c__law_slope hr (by decide) rfl (a_cons (c_nF (pv 13)) (a_cons (c_nF (pv 8)) (a_nil))))) (l_one (s_setF (i := 11) nd rfl (Or.inl rfl) (c_if (b_val (c_call bkF c__law_is_less hr (by decide) rfl (a_cons (c_nF (pv 14)) (a_cons (c_nF (pv 11)) (a_nil))))) (c_nF (pv 14)) (c_nF (pv 11))))))) (l_one (s_setF (i := 5) nd rfl (Or.inl rfl) (c_call bkF c__law_plus hr (by decide) rfl (a_cons (c_nF (pv 5)) (a_cons (c_call bkF c__law_ratio hr (by decide) rfl (a_cons (c_mul (qF (c_mul (qF (c_mul (qF (c_neg (qF (c_int)))) (c_nQ (pv 9)))) (c_nQ (pv 10)))) (qF (c_ix hu4 (c_nQ (pv 11)) (qF (c_int)) (fun _ _ => rfl)))) (a_cons (c_ix hu4 (c_nQ (pv 11)) (qF (c_int)) (fun _ _ => rfl)) (a_nil)))) (a_nil)))))))) (l_nil)))) (l_one (s_retF (c_nF (pv 5)))))))
noncomputable def g__law_sides : Sx := sCons (sPar2 5 6 false true (fCall (aCons (nF 0) (aCons (b2 (b2 (b2 (nQ 1) (b2 (nQ 4) (kD (.int 1)) aSub) aMul) (nQ 2) aAdd) (kD (.int 1)) aAdd) (aNil))) F__law_row) (b2 (fLst (aCons (kD (.int 0)) (aNil))) (nQ 4) aRep)) (sCons (sFor (sqOf (nF 3)) (bTup 2 (bsCons (bNm 7) (bsCons (bNm 8) (bsNil)))) (sCons (sSet 9 (fCall (aCons (nF 0) (aCons (nF 1) (aCons (nF 2) (aCons (nF 8) (aNil))))) F__law_place)) (sCons (sSet 10 (fCall (aCons (nF 8) (aCons (nF 4) (aNil))) F__law_row)) (sFor (r2Of (nQ 9) (nQ 4)) (bNm 11) (sSt 6 (nQ 11) (b2 (b2 (nQ 6) (nQ 11) gIx) (b2 (nQ 7) (b2 (nQ 10) (b2 (nQ 11) (nQ 9) aSub) gIx) aMul) aAdd) putQ))))) (sFz 6 (sRet (fTup (aCons (fLc (r1Of (nQ 4)) (bNm 11) (bYes) (b2 (nQ 5) (b2 (b2 (nQ 1) (nQ 11) aMul) (nQ 2) aAdd) gIx) [11]) (aCons (nF 6) (aNil)))))))
noncomputable def h__law_sides : Sx := xsCons (xsPar2 5 6 false true (xfCall (xaCons (xnF 0) (xaCons (xb2 (xb2 (xb2 (xnQ 1) (xb2 (xnQ 4) (kD (.int 1)) xSub) xMul) (xnQ 2) xAdd) (kD (.int 1)) xAdd) (aNil))) F__law_row) (xb2 (fLst (xaCons (kD (.int 0)) (aNil))) (xnQ 4) aRep)) (xsCons (xsFor (xsqOf (xnF 3)) (xbTup 2 (xbsCons (xbNm 7) (xbsCons (xbNm 8) (bsNil)))) (xsCons (xsSet 9 (xfCall (xaCons (xnF 0) (xaCons (xnF 1) (xaCons (xnF 2) (xaCons (xnF 8) (aNil))))) F__law_place)) (xsCons (xsSet 10 (xfCall (xaCons (xnF 8) (xaCons (xnF 4) (aNil))) F__law_row)) (xsFor (xr2 (xnQ 9) (xnQ 4)) (xbNm 11) (xsSt 6 (xnQ 11) (xb2 (xb2 (xnQ 6) (xnQ 11) xIx) (xb2 (xnQ 7) (xb2 (xnQ 10) (xb2 (xnQ 11) (xnQ 9) xSub) xIx) xMul) xAdd) xputQ))))) (xsFz 6 (xsRet (xfTup (xaCons (xfLc (xr1 (xnQ 4)) (xbNm 11) (bYes) (xb2 (xnQ 5) (xb2 (xb2 (xnQ 1) (xnQ 11) xMul) (xnQ 2) xAdd) xIx) [11]) (xaCons (xnF 6) (aNil)))))))
noncomputable def F__law_sides : List PyData → Option PyData := xrunF 12 5 h__law_sides
theorem hx__law_sides : F__law_sides = runF 12 5 g__law_sides := by
  unfold F__law_sides
  rw [xrunF_eq]
  congr 1
  unfold h__law_sides g__law_sides
  simp only [xAdd_eq, xIx_eq, xMul_eq, xSub_eq, xaCons_eq, xb2_eq, xbNm_eq, xbTup_eq, xbsCons_eq, xfCall_eq, xfLc_eq, xfTup_eq, xnF_eq, xnQ_eq, xputQ_eq, xr1_eq, xr2_eq, xsCons_eq, xsFor_eq, xsFz_eq, xsPar2_eq, xsRet_eq, xsSet_eq, xsSt_eq, xsqOf_eq]
theorem sc__law_sides : FnScope ["_law_powers", "_law_m", "_law_t", "_law_terms", "_law_many", "_law_row_here", "_law_right_here", "_law_number", "_law_one", "_law_place_here", "_law_late", "_law_n"] ["_law_powers", "_law_m", "_law_t", "_law_terms", "_law_many"] (defScope (top 138)) := ⟨rfl, rfl, rfl, by decide +kernel, rfl, by decide +kernel, by decide +kernel⟩
theorem cal__law_sides (M : Mg mg) (FD : FunD K "_law_sides" "_law_sides" (defArgs (top 138)) (defBody (top 138)) (defScope (top 138)) [] [] f fd) (hm : mg "_law_sides" = some (.ref f)) (c__law_place : CF P w K mg base 4 "_law_place" F__law_place) (c__law_row : CF P w K mg base 1 "_law_row" F__law_row) : CF P w K mg base 5 "_law_sides" F__law_sides := by
  rw [hx__law_sides]
  exact fn_F (g := g__law_sides) (k := 4) FD hm (FD.bindsN fun _ _ _ _ _ _ us hl => match us, hl with | [_, _, _, _, _], _ => rfl) sc__law_sides fun cdv A outer s H E hr =>
    have nd := sc__law_sides.nd
    have hu4 := room4 hr
    have hu5 := room5 hr
    l_cons (s_parT2 (o1 := false) (o2 := true) (i := 5) (j := 6) (c_call bkF c__law_row hr (by decide) rfl (a_cons (c_nF (pv 0)) (a_cons (c_add (qF (c_add (qF (c_mul (c_nQ (pv 1)) (qF (c_sub (c_nQ (pv 4)) (qF (c_int)))))) (c_nQ (pv 2)))) (qF (c_int))) (a_nil)))) (c_rep (wO (c_lst (a_cons (c_int) (a_nil)))) (c_nQ (pv 4))) (pg_tup rfl (pgs_cons (pg_name nd rfl (Or.inr rfl) (i := 5)) (pgs_cons (pg_name nd rfl (Or.inl rfl) (i := 6)) (pgs_nil))))) (l_cons (s_for PassesOwn.never rfl (i_sq (c_nF (pv 3))) (g_tup rfl (gs_cons (g_nm (pg_name nd rfl (by first | exact Or.inl rfl | exact Or.inr rfl) (i := 7))) (gs_cons (g_nm (pg_name nd rfl (by first | exact Or.inl rfl | exact Or.inr rfl) (i := 8))) (gs_nil)))) (l_cons (s_setF (i := 9) nd rfl (Or.inl rfl) (c_call bkF c__law_place hr (by decide) rfl (a_cons (c_nF (pv 0)) (a_cons (c_nF (pv 1)) (a_cons (c_nF (pv 2)) (a_cons (c_nF (pv 8)) (a_nil))))))) (l_cons (s_setF (i := 10) nd rfl (Or.inl rfl) (c_call bkF c__law_row hr (by decide) rfl (a_cons (c_nF (pv 8)) (a_cons (c_nF (pv 4)) (a_nil))))) (l_one (s_for PassesOwn.never rfl (i_rg2 rfl M.b_range (c_nQ (pv 9)) (c_nQ (pv 4))) (g_nm (pg_name nd rfl (by first | exact Or.inl rfl | exact Or.inr rfl) (i := 11))) (l_one (s_lput (pv 6) (c_nQ (pv 11)) (c_add (qF (c_ix hu4 (c_nQ (pv 6)) (c_nQ (pv 11)) (fun _ _ => rfl))) (qF (c_mul (c_nQ (pv 7)) (qF (c_ix hu4 (c_nQ (pv 10)) (qF (c_sub (c_nQ (pv 11)) (c_nQ (pv 9)))) (fun _ _ => rfl))))))))))))) (l_one (s_fz 6 (s_retF (c_tup (a_cons (fO (c_lc (own := [("_law_n", 11)]) rfl nd (i_rg1 rfl M.b_range (c_nQ (pv 4))) (blkOk_by (N := ["_law_powers", "_law_m", "_law_t", "_law_terms", "_law_many", "_law_row_here", "_law_right_here", "_law_number", "_law_one", "_law_place_here", "_law_late", "_law_n"]) (sc := defScope (top 138)) (by decide +kernel)) (fun _ _ _ _ _ => g_nm (pg_name nd rfl (by first | exact Or.inl rfl | exact Or.inr rfl) (i := 11))) (fun _ _ _ _ _ => t_nil) (fun _ _ _ _ _ => c_ix hu4 (c_nQ (pv 5)) (qF (c_add (qF (c_mul (c_nQ (pv 1)) (c_nQ (pv 11)))) (c_nQ (pv 2)))) (fun _ _ => rfl)) (by decide))) (a_cons (c_nF (pv 6)) (a_nil))))))))
noncomputable def g__law_chosen : Sx := sCons (sSetO 5 (fLst (aNil))) (sCons (sFor (sqOf (fCall (aCons (nF 3) (aCons (nF 4) (aCons (fCall (aCons (nF 0) (aNil)) F__law_power_sum) (aNil)))) F__law_choices)) (bNm 6) (sCons (sSet 8 (fCall (aCons (nF 0) (aCons (nF 1) (aCons (nF 2) (aCons (nF 6) (aNil))))) F__law_place)) (sIf (bAnd (oB (b2 (nQ 8) (kD .none) cNotN)) (oB (b2 (nQ 8) (kD (.int 200)) cLe))) (sApp 5 (fTup (aCons (nF 8) (aCons (fCall (aCons (nF 6) (aNil)) F__law_product) (aCons (nF 6) (aNil)))))) (sNil)))) (sCons (sSetO 7 (fLst (aNil))) (sCons (sFor (sqOf (u1 (nQ 5) gSortR)) (bTup 3 (bsCons (bNm 8) (bsCons (bNm 9) (bsCons (bNm 6) (bsNil))))) (sIf (bAnd (oB (b2 (u1 (nQ 7) gLen) (kD (.int 6)) cLt)) (bOr (oB (b2 (nQ 7) (fLst (aNil)) cEqE)) (bAnd (oB (b2 (nQ 8) (b2 (b2 (nQ 7) (u1 (kD (.int 1)) aNeg) gIx) (kD (.int 0)) gIx) cGt)) (oB (fCall (aCons (nF 6) (aCons (b2 (b2 (nQ 7) (kD (.int 0)) gIx) (kD (.int 2)) gIx) (aCons (nF 3) (aNil)))) F__law_are_beside))))) (sApp 7 (fTup (aCons (nF 8) (aCons (nF 9) (aCons (nF 6) (aNil)))))) (sNil))) (sFz 7 (sRet (nF 7))))))
noncomputable def h__law_chosen : Sx := xsCons (xsSetO 5 (fLst (aNil))) (xsCons (xsFor (xsqOf (xfCall (xaCons (xnF 3) (xaCons (xnF 4) (xaCons (xfCall (xaCons (xnF 0) (aNil)) F__law_power_sum) (aNil)))) F__law_choices)) (xbNm 6) (xsCons (xsSet 8 (xfCall (xaCons (xnF 0) (xaCons (xnF 1) (xaCons (xnF 2) (xaCons (xnF 6) (aNil))))) F__law_place)) (xsIf (xbAnd (xoB (xb2 (xnQ 8) (kD .none) cNotN)) (xoB (xb2 (xnQ 8) (kD (.int 200)) xLe))) (xsApp 5 (xfTup (xaCons (xnF 8) (xaCons (xfCall (xaCons (xnF 6) (aNil)) F__law_product) (xaCons (xnF 6) (aNil)))))) (sNil)))) (xsCons (xsSetO 7 (fLst (aNil))) (xsCons (xsFor (xsqOf (xu1 (xnQ 5) gSortR)) (xbTup 3 (xbsCons (xbNm 8) (xbsCons (xbNm 9) (xbsCons (xbNm 6) (bsNil))))) (xsIf (xbAnd (xoB (xb2 (xu1 (xnQ 7) gLen) (kD (.int 6)) xLt)) (xbOr (xoB (xb2 (xnQ 7) (fLst (aNil)) cEqE)) (xbAnd (xoB (xb2 (xnQ 8) (xb2 (xb2 (xnQ 7) (xu1 (kD (.int 1)) aNeg) xIx) (kD (.int 0)) xIx) xGt)) (xoB (xfCall (xaCons (xnF 6) (xaCons (xb2 (xb2 (xnQ 7) (kD (.int 0)) xIx) (kD (.int 2)) xIx) (xaCons (xnF 3) (aNil)))) F__law_are_beside))))) (xsApp 7 (xfTup (xaCons (xnF 8) (xaCons (xnF 9) (xaCons (xnF 6) (aNil)))))) (sNil))) (xsFz 7 (xsRet (xnF 7))))))
noncomputable def F__law_chosen : List PyData → Option PyData := xrunF 10 5 h__law_chosen
theorem hx__law_chosen : F__law_chosen = runF 10 5 g__law_chosen := by
  unfold F__law_chosen
  rw [xrunF_eq]
  congr 1
  unfold h__law_chosen g__law_chosen
  simp only [xGt_eq, xIx_eq, xLe_eq, xLt_eq, xaCons_eq, xb2_eq, xbAnd_eq, xbNm_eq, xbOr_eq, xbTup_eq, xbsCons_eq, xfCall_eq, xfTup_eq, xnF_eq, xnQ_eq, xoB_eq, xsApp_eq, xsCons_eq, xsFor_eq, xsFz_eq, xsIf_eq, xsRet_eq, xsSet_eq, xsSetO_eq, xsqOf_eq, xu1_eq]
theorem sc__law_chosen : FnScope ["_law_powers", "_law_m", "_law_t", "_law_level", "_law_most", "_law_some", "_law_one", "_law_found", "_law_place_here", "_law_product_here"] ["_law_powers", "_law_m", "_law_t", "_law_level", "_law_most"] (defScope (top 146)) := ⟨rfl, rfl, rfl, by decide +kernel, rfl, by decide +kernel, by decide +kernel⟩
noncomputable def g_least_level_for : Sx := sCons (sFor (r2Of (kD (.int 1)) (b2 (kD (.int k_MOST_LEVEL_levels)) (kD (.int 1)) aAdd)) (bNm 4) (sIf (oB (fCall (aCons (nF 0) (aCons (nF 1) (aCons (nF 2) (aCons (nF 3) (aCons (nF 4) (aNil)))))) F_serves_products)) (sRet (nF 4)) (sNil))) (sRet (kD .none))
noncomputable def h_least_level_for : Sx := xsCons (xsFor (xr2 (kD (.int 1)) (xb2 (kD (.int k_MOST_LEVEL_levels)) (kD (.int 1)) xAdd)) (xbNm 4) (xsIf (xoB (xfCall (xaCons (xnF 0) (xaCons (xnF 1) (xaCons (xnF 2) (xaCons (xnF 3) (xaCons (xnF 4) (aNil)))))) F_serves_products)) (xsRet (xnF 4)) (sNil))) (xsRet (kD .none))
noncomputable def F_least_level_for : List PyData → Option PyData := xrunF 5 4 h_least_level_for
theorem hx_least_level_for : F_least_level_for = runF 5 4 g_least_level_for := by
  unfold F_least_level_for
  rw [xrunF_eq]
  congr 1
  unfold h_least_level_for g_least_level_for
  simp only [xAdd_eq, xaCons_eq, xb2_eq, xbNm_eq, xfCall_eq, xnF_eq, xoB_eq, xr2_eq, xsCons_eq, xsFor_eq, xsIf_eq, xsRet_eq]
theorem sc_least_level_for : FnScope ["product", "m", "t", "products", "level"] ["product", "m", "t", "products"] (defScope (top 94)) := ⟨rfl, rfl, rfl, by decide +kernel, rfl, by decide +kernel, by decide +kernel⟩
theorem cal_least_level_for (M : Mg mg) (FD : FunD K "least_level_for" "least_level_for" (defArgs (top 94)) (defBody (top 94)) (defScope (top 94)) [] [] f fd) (hm : mg "least_level_for" = some (.ref f)) (c_serves_products : CF P w K mg base 5 "serves_products" F_serves_products) : CF P w K mg base 6 "least_level_for" F_least_level_for := by
  rw [hx_least_level_for]
  exact fn_F (g := g_least_level_for) (k := 5) FD hm (FD.bindsN fun _ _ _ _ _ _ us hl => match us, hl with | [_, _, _, _], _ => rfl) sc_least_level_for fun cdv A outer s H E hr =>
    have nd := sc_least_level_for.nd
    have hu4 := room4 hr
    have hu5 := room5 hr
    l_cons (s_for PassesOwn.never rfl (i_rg2 rfl M.b_range (qF (c_int)) (qF (c_add (qF (c_gint rfl M.c_MOST_LEVEL_levels)) (qF (c_int))))) (g_nm (pg_name nd rfl (by first | exact Or.inl rfl | exact Or.inr rfl) (i := 4))) (l_one (s_if (b_val (c_call bkF c_serves_products hr (by decide) rfl (a_cons (c_nF (pv 0)) (a_cons (c_nF (pv 1)) (a_cons (c_nF (pv 2)) (a_cons (c_nF (pv 3)) (a_cons (c_nF (pv 4)) (a_nil)))))))) (l_one (s_retF (c_nF (pv 4)))) (l_nil)))) (l_one (s_retF (c_none)))
noncomputable def g_places_wanted : Sx := sCons (sSet 5 (fCall (aCons (nF 0) (aCons (nF 1) (aCons (nF 2) (aCons (nF 3) (aCons (nF 4) (aNil)))))) F_bound_by_products)) (sRet (b2 (b2 (b2 (nQ 5) (kD (.int 0)) gIx) (b2 (nQ 5) (kD (.int 1)) gIx) aDiv) (fCall (aCons (nF 0) (aCons (nF 1) (aCons (nF 2) (aCons (b2 (nQ 3) (kD (.int 0)) gIx) (aNil))))) F_place_of_term) gMax2))
noncomputable def h_places_wanted : Sx := xsCons (xsSet 5 (xfCall (xaCons (xnF 0) (xaCons (xnF 1) (xaCons (xnF 2) (xaCons (xnF 3) (xaCons (xnF 4) (aNil)))))) F_bound_by_products)) (xsRet (xb2 (xb2 (xb2 (xnQ 5) (kD (.int 0)) xIx) (xb2 (xnQ 5) (kD (.int 1)) xIx) xDiv) (xfCall (xaCons (xnF 0) (xaCons (xnF 1) (xaCons (xnF 2) (xaCons (xb2 (xnQ 3) (kD (.int 0)) xIx) (aNil))))) F_place_of_term) gMax2))
noncomputable def F_places_wanted : List PyData → Option PyData := xrunF 6 5 h_places_wanted
theorem hx_places_wanted : F_places_wanted = runF 6 5 g_places_wanted := by
  unfold F_places_wanted
  rw [xrunF_eq]
  congr 1
  unfold h_places_wanted g_places_wanted
  simp only [xDiv_eq, xIx_eq, xaCons_eq, xb2_eq, xfCall_eq, xnF_eq, xnQ_eq, xsCons_eq, xsRet_eq, xsSet_eq]
theorem sc_places_wanted : FnScope ["product", "m", "t", "products", "level", "bound"] ["product", "m", "t", "products", "level"] (defScope (top 97)) := ⟨rfl, rfl, rfl, by decide +kernel, rfl, by decide +kernel, by decide +kernel⟩
theorem cal_places_wanted (M : Mg mg) (FD : FunD K "places_wanted" "places_wanted" (defArgs (top 97)) (defBody (top 97)) (defScope (top 97)) [] [] f fd) (hm : mg "places_wanted" = some (.ref f)) (c_bound_by_products : CF P w K mg base 5 "bound_by_products" F_bound_by_products) (c_place_of_term : CF P w K mg base 4 "place_of_term" F_place_of_term) : CF P w K mg base 6 "places_wanted" F_places_wanted := by
  rw [hx_places_wanted]
  exact fn_F (g := g_places_wanted) (k := 5) FD hm (FD.bindsN fun _ _ _ _ _ _ us hl => match us, hl with | [_, _, _, _, _], _ => rfl) sc_places_wanted fun cdv A outer s H E hr =>
    have nd := sc_places_wanted.nd
    have hu4 := room4 hr
    have hu5 := room5 hr
    l_cons (s_setF (i := 5) nd rfl (Or.inl rfl) (c_call bkF c_bound_by_products hr (by decide) rfl (a_cons (c_nF (pv 0)) (a_cons (c_nF (pv 1)) (a_cons (c_nF (pv 2)) (a_cons (c_nF (pv 3)) (a_cons (c_nF (pv 4)) (a_nil)))))))) (l_one (s_retF (c_max2 rfl rfl M.b_max (qF (c_div (qF (c_ix hu4 (c_nQ (pv 5)) (qF (c_int)) (fun _ _ => rfl))) (qF (c_ix hu4 (c_nQ (pv 5)) (qF (c_int)) (fun _ _ => rfl))))) (qF (c_call bkF c_place_of_term hr (by decide) rfl (a_cons (c_nF (pv 0)) (a_cons (c_nF (pv 1)) (a_cons (c_nF (pv 2)) (a_cons (c_ix hu4 (c_nQ (pv 3)) (qF (c_int)) (fun _ _ => rfl)) (a_nil))))))))))
noncomputable def g_first_parting : Sx := sCons (sPar2 5 6 false false (fCall (aCons (nF 0) (aCons (nF 1) (aCons (nF 2) (aCons (b2 (nQ 4) (kD (.int 1)) aAdd) (aNil))))) F_left_row) (fCall (aCons (nF 0) (aCons (nF 1) (aCons (nF 2) (aCons (nF 3) (aCons (b2 (nQ 4) (kD (.int 1)) aAdd) (aNil)))))) F_right_row)) (sCons (sFor (ezOf (nF 5) (nF 6)) (bTup 2 (bsCons (bNm 7) (bsCons (bTup 2 (bsCons (bNm 8) (bsCons (bNm 9) (bsNil)))) (bsNil)))) (sIf (oB (b2 (nQ 8) (nQ 9) cNe)) (sRet (fTup (aCons (nF 7) (aCons (nF 8) (aCons (nF 9) (aNil)))))) (sNil))) (sRet (kD .none)))
noncomputable def h_first_parting : Sx := xsCons (xsPar2 5 6 false false (xfCall (xaCons (xnF 0) (xaCons (xnF 1) (xaCons (xnF 2) (xaCons (xb2 (xnQ 4) (kD (.int 1)) xAdd) (aNil))))) F_left_row) (xfCall (xaCons (xnF 0) (xaCons (xnF 1) (xaCons (xnF 2) (xaCons (xnF 3) (xaCons (xb2 (xnQ 4) (kD (.int 1)) xAdd) (aNil)))))) F_right_row)) (xsCons (xsFor (ezOf (xnF 5) (xnF 6)) (xbTup 2 (xbsCons (xbNm 7) (xbsCons (xbTup 2 (xbsCons (xbNm 8) (xbsCons (xbNm 9) (bsNil)))) (bsNil)))) (xsIf (xoB (xb2 (xnQ 8) (xnQ 9) xNe)) (xsRet (xfTup (xaCons (xnF 7) (xaCons (xnF 8) (xaCons (xnF 9) (aNil)))))) (sNil))) (xsRet (kD .none)))
noncomputable def F_first_parting : List PyData → Option PyData := xrunF 10 5 h_first_parting
theorem hx_first_parting : F_first_parting = runF 10 5 g_first_parting := by
  unfold F_first_parting
  rw [xrunF_eq]
  congr 1
  unfold h_first_parting g_first_parting
  simp only [xAdd_eq, xNe_eq, xaCons_eq, xb2_eq, xbNm_eq, xbTup_eq, xbsCons_eq, xfCall_eq, xfTup_eq, xnF_eq, xnQ_eq, xoB_eq, xsCons_eq, xsFor_eq, xsIf_eq, xsPar2_eq, xsRet_eq]
theorem sc_first_parting : FnScope ["product", "m", "t", "terms", "last", "left", "right", "n", "one", "other"] ["product", "m", "t", "terms", "last"] (defScope (top 100)) := ⟨rfl, rfl, rfl, by decide +kernel, rfl, by decide +kernel, by decide +kernel⟩
noncomputable def g_candidates : Sx := sCons (sDrop (fCall (aCons (nF 0) (aCons (nF 1) (aCons (nF 2) (aNil)))) F_want_section)) (sCons (sDrop (fCall (aCons (nF 3) (aNil)) F_want_level)) (sCons (sDrop (fCall (aCons (nF 4) (aNil)) F_want_size)) (sRet (fCall (aCons (nF 0) (aCons (nF 1) (aCons (nF 2) (aCons (nF 3) (aCons (fCall (aCons (nF 3) (aCons (nF 4) (aNil))) F_want_choices) (aCons (nF 4) (aNil))))))) F_chosen_of))))
noncomputable def h_candidates : Sx := xsCons (sDrop (xfCall (xaCons (xnF 0) (xaCons (xnF 1) (xaCons (xnF 2) (aNil)))) F_want_section)) (xsCons (sDrop (xfCall (xaCons (xnF 3) (aNil)) F_want_level)) (xsCons (sDrop (xfCall (xaCons (xnF 4) (aNil)) F_want_size)) (xsRet (xfCall (xaCons (xnF 0) (xaCons (xnF 1) (xaCons (xnF 2) (xaCons (xnF 3) (xaCons (xfCall (xaCons (xnF 3) (xaCons (xnF 4) (aNil))) F_want_choices) (xaCons (xnF 4) (aNil))))))) F_chosen_of))))
noncomputable def F_candidates : List PyData → Option PyData := xrunO 5 5 h_candidates
theorem hx_candidates : F_candidates = runO 5 5 g_candidates := by
  unfold F_candidates
  rw [xrunO_eq]
  congr 1
  unfold h_candidates g_candidates
  simp only [xaCons_eq, xfCall_eq, xnF_eq, xsCons_eq, xsRet_eq]
theorem sc_candidates : FnScope ["product", "m", "t", "level", "many"] ["product", "m", "t", "level", "many"] (defScope (top 108)) := ⟨rfl, rfl, rfl, by decide +kernel, rfl, by decide +kernel, by decide +kernel⟩
theorem cal_candidates (M : Mg mg) (FD : FunD K "candidates" "candidates" (defArgs (top 108)) (defBody (top 108)) (defScope (top 108)) [] [] f fd) (hm : mg "candidates" = some (.ref f)) (c_chosen_of : CO P w K mg base 5 "chosen_of" F_chosen_of) (c_want_choices : CF P w K mg base 3 "want_choices" F_want_choices) (c_want_level : CF P w K mg base 3 "want_level" F_want_level) (c_want_section : CF P w K mg base 5 "want_section" F_want_section) (c_want_size : CF P w K mg base 3 "want_size" F_want_size) : CO P w K mg base 6 "candidates" F_candidates := by
  rw [hx_candidates]
  exact fn_O (g := g_candidates) (k := 5) FD hm (FD.bindsN fun _ _ _ _ _ _ us hl => match us, hl with | [_, _, _, _, _], _ => rfl) sc_candidates fun cdv A outer s H E hr =>
    have nd := sc_candidates.nd
    have hu4 := room4 hr
    have hu5 := room5 hr
    l_cons (s_expr (c_call bkF c_want_section hr (by decide) rfl (a_cons (c_nF (pv 0)) (a_cons (c_nF (pv 1)) (a_cons (c_nF (pv 2)) (a_nil)))))) (l_cons (s_expr (c_call bkF c_want_level hr (by decide) rfl (a_cons (c_nF (pv 3)) (a_nil)))) (l_cons (s_expr (c_call bkF c_want_size hr (by decide) rfl (a_cons (c_nF (pv 4)) (a_nil)))) (l_one (s_retO (c_call bkO c_chosen_of hr (by decide) rfl (a_cons (c_nF (pv 0)) (a_cons (c_nF (pv 1)) (a_cons (c_nF (pv 2)) (a_cons (c_nF (pv 3)) (a_cons (c_call bkF c_want_choices hr (by decide) rfl (a_cons (c_nF (pv 3)) (a_cons (c_nF (pv 4)) (a_nil)))) (a_cons (c_nF (pv 4)) (a_nil))))))))))))
noncomputable def g__law_read_off : Sx := sCons (sFzA 4 (sSetO 4 (fLc (sqOf (nF 3)) (bNm 8) (bYes) (fCall (aCons (nF 0) (aCons (nF 1) (aCons (nF 2) (aCons (nF 8) (aNil))))) F__law_place) [8]))) (sCons (sSet 5 (b2 (b2 (nQ 4) (u1 (kD (.int 1)) aNeg) gIx) (kD (.int 1)) aAdd)) (sCons (sSet 6 (b2 (fCall (aCons (nF 0) (aCons (nF 1) (aCons (nF 2) (aCons (fLst (aNil)) (aCons (nF 5) (aNil)))))) F__law_sides) (kD (.int 0)) gIx)) (sCons (sSetO 7 (fLst (aNil))) (sCons (sFor (zpOf (nF 3) (nF 4)) (bTup 2 (bsCons (bNm 8) (bsCons (bNm 9) (bsNil)))) (sCons (sSet 10 (b2 (nQ 6) (nQ 9) gIx)) (sIf (oB (b2 (nQ 10) (kD (.int 0)) cNe)) (sCons (sApp 7 (fTup (aCons (nF 10) (aCons (nF 8) (aNil))))) (sCons (sSet 11 (fCall (aCons (nF 8) (aCons (nF 5) (aNil))) F__law_row)) (sSet 6 (fLc (r1Of (nQ 5)) (bNm 12) (bYes) (b2 (b2 (nQ 6) (nQ 12) gIx) (iF (oB (b2 (nQ 12) (nQ 9) cGe)) (b2 (nQ 10) (b2 (nQ 11) (b2 (nQ 12) (nQ 9) aSub) gIx) aMul) (kD (.int 0))) aSub) [12])))) (sNil)))) (sFz 7 (sRet (nF 7)))))))
noncomputable def h__law_read_off : Sx := xsCons (sFzA 4 (xsSetO 4 (xfLc (xsqOf (xnF 3)) (xbNm 8) (bYes) (xfCall (xaCons (xnF 0) (xaCons (xnF 1) (xaCons (xnF 2) (xaCons (xnF 8) (aNil))))) F__law_place) [8]))) (xsCons (xsSet 5 (xb2 (xb2 (xnQ 4) (xu1 (kD (.int 1)) aNeg) xIx) (kD (.int 1)) xAdd)) (xsCons (xsSet 6 (xb2 (xfCall (xaCons (xnF 0) (xaCons (xnF 1) (xaCons (xnF 2) (xaCons (fLst (aNil)) (xaCons (xnF 5) (aNil)))))) F__law_sides) (kD (.int 0)) xIx)) (xsCons (xsSetO 7 (fLst (aNil))) (xsCons (xsFor (zpOf (xnF 3) (xnF 4)) (xbTup 2 (xbsCons (xbNm 8) (xbsCons (xbNm 9) (bsNil)))) (xsCons (xsSet 10 (xb2 (xnQ 6) (xnQ 9) xIx)) (xsIf (xoB (xb2 (xnQ 10) (kD (.int 0)) xNe)) (xsCons (xsApp 7 (xfTup (xaCons (xnF 10) (xaCons (xnF 8) (aNil))))) (xsCons (xsSet 11 (xfCall (xaCons (xnF 8) (xaCons (xnF 5) (aNil))) F__law_row)) (xsSet 6 (xfLc (xr1 (xnQ 5)) (xbNm 12) (bYes) (xb2 (xb2 (xnQ 6) (xnQ 12) xIx) (xiF (xoB (xb2 (xnQ 12) (xnQ 9) xGe)) (xb2 (xnQ 10) (xb2 (xnQ 11) (xb2 (xnQ 12) (xnQ 9) xSub) xIx) xMul) (kD (.int 0))) xSub) [12])))) (sNil)))) (xsFz 7 (xsRet (xnF 7)))))))
noncomputable def F__law_read_off : List PyData → Option PyData := xrunF 13 4 h__law_read_off
theorem hx__law_read_off : F__law_read_off = runF 13 4 g__law_read_off := by
  unfold F__law_read_off
  rw [xrunF_eq]
  congr 1
  unfold h__law_read_off g__law_read_off
  simp only [xAdd_eq, xGe_eq, xIx_eq, xMul_eq, xNe_eq, xSub_eq, xaCons_eq, xb2_eq, xbNm_eq, xbTup_eq, xbsCons_eq, xfCall_eq, xfLc_eq, xfTup_eq, xiF_eq, xnF_eq, xnQ_eq, xoB_eq, xr1_eq, xsApp_eq, xsCons_eq, xsFor_eq, xsFz_eq, xsIf_eq, xsRet_eq, xsSet_eq, xsSetO_eq, xsqOf_eq, xu1_eq]
theorem sc__law_read_off : FnScope ["_law_powers", "_law_m", "_law_t", "_law_some", "_law_places", "_law_many", "_law_left", "_law_found", "_law_one", "_law_place_here", "_law_number", "_law_late", "_law_n"] ["_law_powers", "_law_m", "_law_t", "_law_some"] (defScope (top 143)) := ⟨rfl, rfl, rfl, by decide +kernel, rfl, by decide +kernel, by decide +kernel⟩
theorem cal__law_read_off (M : Mg mg) (FD : FunD K "_law_read_off" "_law_read_off" (defArgs (top 143)) (defBody (top 143)) (defScope (top 143)) [] [] f fd) (hm : mg "_law_read_off" = some (.ref f)) (c__law_place : CF P w K mg base 4 "_law_place" F__law_place) (c__law_row : CF P w K mg base 1 "_law_row" F__law_row) (c__law_sides : CF P w K mg base 5 "_law_sides" F__law_sides) : CF P w K mg base 6 "_law_read_off" F__law_read_off := by
  rw [hx__law_read_off]
  exact fn_F (g := g__law_read_off) (k := 5) FD hm (FD.bindsN fun _ _ _ _ _ _ us hl => match us, hl with | [_, _, _, _], _ => rfl) sc__law_read_off fun cdv A outer s H E hr =>
    have nd := sc__law_read_off.nd
    have hu4 := room4 hr
    have hu5 := room5 hr
    l_cons (s_fzA (s_lc (i := 4) (own := [("_law_one", 8)]) rfl nd rfl rfl rfl (i_sq (c_nF (pv 3))) (blkOk_by (N := ["_law_powers", "_law_m", "_law_t", "_law_some", "_law_places", "_law_many", "_law_left", "_law_found", "_law_one", "_law_place_here", "_law_number", "_law_late", "_law_n"]) (sc := defScope (top 143)) (by decide +kernel)) (fun _ _ _ _ _ => g_nm (pg_name nd rfl (by first | exact Or.inl rfl | exact Or.inr rfl) (i := 8))) (fun _ _ _ _ _ => t_nil) (fun _ _ _ _ _ => c_call bkF c__law_place hr (by decide) rfl (a_cons (c_nF (pv 0)) (a_cons (c_nF (pv 1)) (a_cons (c_nF (pv 2)) (a_cons (c_nF (pv 8)) (a_nil)))))) (by decide))) (l_cons (s_setF (i := 5) nd rfl (Or.inl rfl) (c_add (qF (c_ix hu4 (c_nQ (pv 4)) (qF (c_neg (qF (c_int)))) (fun _ _ => rfl))) (qF (c_int)))) (l_cons (s_setF (i := 6) nd rfl (Or.inr rfl) (c_ix hu4 (qF (c_call bkF c__law_sides hr (by decide) rfl (a_cons (c_nF (pv 0)) (a_cons (c_nF (pv 1)) (a_cons (c_nF (pv 2)) (a_cons (fO (c_lst (a_nil))) (a_cons (c_nF (pv 5)) (a_nil)))))))) (qF (c_int)) (fun _ _ => rfl))) (l_cons (s_setO (i := 7) nd rfl (Or.inl rfl) (c_lst (a_nil))) (l_cons (s_for PassesOwn.never rfl (i_zip rfl M.b_zip (c_nF (pv 3)) (c_nF (pv 4))) (g_tup rfl (gs_cons (g_nm (pg_name nd rfl (by first | exact Or.inl rfl | exact Or.inr rfl) (i := 8))) (gs_cons (g_nm (pg_name nd rfl (by first | exact Or.inl rfl | exact Or.inr rfl) (i := 9))) (gs_nil)))) (l_cons (s_setF (i := 10) nd rfl (Or.inr rfl) (c_ix hu4 (c_nQ (pv 6)) (c_nQ (pv 9)) (fun _ _ => rfl))) (l_one (s_if (b_ne hu4 (c_nQ (pv 10)) (qF (c_int))) (l_cons (s_app (pe_bm PySem.F.plainAttrs_list PySem.F.slot_list_append PySem.F.type_list_append mt_append (pv 7) (pa_cons (c_tup (a_cons (c_nF (pv 10)) (a_cons (c_nF (pv 8)) (a_nil)))) pa_nil))) (l_cons (s_setF (i := 11) nd rfl (Or.inr rfl) (c_call bkF c__law_row hr (by decide) rfl (a_cons (c_nF (pv 8)) (a_cons (c_nF (pv 5)) (a_nil))))) (l_one (s_setF (i := 6) nd rfl (Or.inr rfl) (fO (c_lc (own := [("_law_n", 12)]) rfl nd (i_rg1 rfl M.b_range (c_nQ (pv 5))) (blkOk_by (N := ["_law_powers", "_law_m", "_law_t", "_law_some", "_law_places", "_law_many", "_law_left", "_law_found", "_law_one", "_law_place_here", "_law_number", "_law_late", "_law_n"]) (sc := defScope (top 143)) (by decide +kernel)) (fun _ _ _ _ _ => g_nm (pg_name nd rfl (by first | exact Or.inl rfl | exact Or.inr rfl) (i := 12))) (fun _ _ _ _ _ => t_nil) (fun _ _ _ _ _ => c_sub (qF (c_ix hu4 (c_nQ (pv 6)) (c_nQ (pv 12)) (fun _ _ => rfl))) (qF (c_if (b_ge (c_nQ (pv 12)) (c_nQ (pv 9))) (c_mul (c_nQ (pv 10)) (qF (c_ix hu4 (c_nQ (pv 11)) (qF (c_sub (c_nQ (pv 12)) (c_nQ (pv 9)))) (fun _ _ => rfl)))) (c_int)))) (by decide))))))) (l_nil))))) (l_one (s_fz 7 (s_retF (c_nF (pv 7)))))))))
noncomputable def g_want_level_for : Sx := sCons (sSet 4 (fCall (aCons (nF 0) (aCons (nF 1) (aCons (nF 2) (aCons (nF 3) (aNil))))) F_least_level_for)) (sCons (sIf (oB (b2 (nQ 4) (kD .none) cIsN)) (sNo) (sNil)) (sRet (nF 4)))
noncomputable def h_want_level_for : Sx := xsCons (xsSet 4 (xfCall (xaCons (xnF 0) (xaCons (xnF 1) (xaCons (xnF 2) (xaCons (xnF 3) (aNil))))) F_least_level_for)) (xsCons (xsIf (xoB (xb2 (xnQ 4) (kD .none) cIsN)) (sNo) (sNil)) (xsRet (xnF 4)))
noncomputable def F_want_level_for : List PyData → Option PyData := xrunF 5 4 h_want_level_for
theorem hx_want_level_for : F_want_level_for = runF 5 4 g_want_level_for := by
  unfold F_want_level_for
  rw [xrunF_eq]
  congr 1
  unfold h_want_level_for g_want_level_for
  simp only [xaCons_eq, xb2_eq, xfCall_eq, xnF_eq, xnQ_eq, xoB_eq, xsCons_eq, xsIf_eq, xsRet_eq, xsSet_eq]
theorem sc_want_level_for : FnScope ["product", "m", "t", "products", "level"] ["product", "m", "t", "products"] (defScope (top 102)) := ⟨rfl, rfl, rfl, by decide +kernel, rfl, by decide +kernel, by decide +kernel⟩
theorem cal_want_level_for (M : Mg mg) (FD : FunD K "want_level_for" "want_level_for" (defArgs (top 102)) (defBody (top 102)) (defScope (top 102)) [] [] f fd) (hm : mg "want_level_for" = some (.ref f)) (c_least_level_for : CF P w K mg base 6 "least_level_for" F_least_level_for) : CF P w K mg base 7 "want_level_for" F_want_level_for := by
  rw [hx_want_level_for]
  exact fn_F (g := g_want_level_for) (k := 6) FD hm (FD.bindsN fun _ _ _ _ _ _ us hl => match us, hl with | [_, _, _, _], _ => rfl) sc_want_level_for fun cdv A outer s H E hr =>
    have nd := sc_want_level_for.nd
    have hu4 := room4 hr
    have hu5 := room5 hr
    l_cons (s_setF (i := 4) nd rfl (Or.inl rfl) (c_call bkF c_least_level_for hr (by decide) rfl (a_cons (c_nF (pv 0)) (a_cons (c_nF (pv 1)) (a_cons (c_nF (pv 2)) (a_cons (c_nF (pv 3)) (a_nil))))))) (l_cons (s_if (b_isN (c_nQ (pv 4)) (qF (c_none))) (l_no) (l_nil)) (l_one (s_retF (c_nF (pv 4)))))
end
end Q7

-- part Rj
set_option Elab.async false
set_option linter.all false
set_option maxRecDepth 100000
set_option maxHeartbeats 0
namespace Q7
open PySem PySem.Spec PyProof.Rows L2
open C8 (Cal pe_c)
section
variable {P : Program} {w : World} {K : PySem.W.Frag} {mg : Str → Option Value} {base : Heap} {f : Addr} {fd : FuncData}
noncomputable def g__law_due : Sx := sCons (sSet 4 (fCall (aCons (nF 0) (aCons (nF 1) (aCons (nF 2) (aCons (nF 3) (aNil))))) F__law_read_off)) (sCons (sIf (oB (b2 (nQ 4) (fLst (aNil)) cEqE)) (sRet (kD .none)) (sNil)) (sCons (sSet 5 (fCall (aCons (nF 0) (aCons (nF 1) (aCons (nF 2) (aCons (nF 4) (aNil))))) F__law_least_level)) (sCons (sIf (bOr (oB (b2 (nQ 5) (kD .none) cIsN)) (oB (b2 (b2 (nQ 5) (nQ 1) aMul) (kD (.int 90)) cGt))) (sRet (kD (.str "long"))) (sNil)) (sCons (sSet 6 (fCall (aCons (nF 0) (aCons (nF 1) (aCons (nF 2) (aCons (nF 4) (aCons (nF 5) (aNil)))))) F__law_bound)) (sCons (sIf (oB (b2 (b2 (nQ 6) (kD (.int 0)) gIx) (b2 (kD (.int 40)) (b2 (nQ 6) (kD (.int 1)) gIx) aMul) cGt)) (sRet (kD (.str "long"))) (sNil)) (sCons (sSet 7 (b2 (b3 (b2 (b2 (nQ 6) (kD (.int 0)) gIx) (b2 (nQ 6) (kD (.int 1)) gIx) aDiv) (fCall (aCons (nF 0) (aCons (nF 1) (aCons (nF 2) (aCons (b2 (b2 (nQ 4) (kD (.int 0)) gIx) (kD (.int 1)) gIx) (aNil))))) F__law_place) (kD (.int 0)) gMax3) (kD (.int 1)) aAdd)) (sCons (sAsg (fCall (aCons (nF 0) (aCons (nF 1) (aCons (nF 2) (aCons (nF 4) (aCons (nF 7) (aNil)))))) F__law_sides) (bTup 2 (bsCons (bNm 8) (bsCons (bNm 9) (bsNil))))) (sRet (iF (oB (b2 (nQ 8) (nQ 9) cEq)) (fCall (aCons (nF 4) (aNil)) F__law_told) (kD .none))))))))))
noncomputable def h__law_due : Sx := xsCons (xsSet 4 (xfCall (xaCons (xnF 0) (xaCons (xnF 1) (xaCons (xnF 2) (xaCons (xnF 3) (aNil))))) F__law_read_off)) (xsCons (xsIf (xoB (xb2 (xnQ 4) (fLst (aNil)) cEqE)) (xsRet (kD .none)) (sNil)) (xsCons (xsSet 5 (xfCall (xaCons (xnF 0) (xaCons (xnF 1) (xaCons (xnF 2) (xaCons (xnF 4) (aNil))))) F__law_least_level)) (xsCons (xsIf (xbOr (xoB (xb2 (xnQ 5) (kD .none) cIsN)) (xoB (xb2 (xb2 (xnQ 5) (xnQ 1) xMul) (kD (.int 90)) xGt))) (xsRet (kD (.str "long"))) (sNil)) (xsCons (xsSet 6 (xfCall (xaCons (xnF 0) (xaCons (xnF 1) (xaCons (xnF 2) (xaCons (xnF 4) (xaCons (xnF 5) (aNil)))))) F__law_bound)) (xsCons (xsIf (xoB (xb2 (xb2 (xnQ 6) (kD (.int 0)) xIx) (xb2 (kD (.int 40)) (xb2 (xnQ 6) (kD (.int 1)) xIx) xMul) xGt)) (xsRet (kD (.str "long"))) (sNil)) (xsCons (xsSet 7 (xb2 (xb3 (xb2 (xb2 (xnQ 6) (kD (.int 0)) xIx) (xb2 (xnQ 6) (kD (.int 1)) xIx) xDiv) (xfCall (xaCons (xnF 0) (xaCons (xnF 1) (xaCons (xnF 2) (xaCons (xb2 (xb2 (xnQ 4) (kD (.int 0)) xIx) (kD (.int 1)) xIx) (aNil))))) F__law_place) (kD (.int 0)) gMax3) (kD (.int 1)) xAdd)) (xsCons (sAsg (xfCall (xaCons (xnF 0) (xaCons (xnF 1) (xaCons (xnF 2) (xaCons (xnF 4) (xaCons (xnF 7) (aNil)))))) F__law_sides) (xbTup 2 (xbsCons (xbNm 8) (xbsCons (xbNm 9) (bsNil))))) (xsRet (xiF (xoB (xb2 (xnQ 8) (xnQ 9) xEq)) (xfCall (xaCons (xnF 4) (aNil)) F__law_told) (kD .none))))))))))
noncomputable def F__law_due : List PyData → Option PyData := xrunF 10 4 h__law_due
theorem hx__law_due : F__law_due = runF 10 4 g__law_due := by
  unfold F__law_due
  rw [xrunF_eq]
  congr 1
  unfold h__law_due g__law_due
  simp only [xAdd_eq, xDiv_eq, xEq_eq, xGt_eq, xIx_eq, xMul_eq, xaCons_eq, xb2_eq, xb3_eq, xbNm_eq, xbOr_eq, xbTup_eq, xbsCons_eq, xfCall_eq, xiF_eq, xnF_eq, xnQ_eq, xoB_eq, xsCons_eq, xsIf_eq, xsRet_eq, xsSet_eq]
theorem sc__law_due : FnScope ["_law_powers", "_law_m", "_law_t", "_law_some", "_law_terms", "_law_level", "_law_bound_here", "_law_many", "_law_left", "_law_right_here"] ["_law_powers", "_law_m", "_law_t", "_law_some"] (defScope (top 144)) := ⟨rfl, rfl, rfl, by decide +kernel, rfl, by decide +kernel, by decide +kernel⟩
theorem cal__law_due (M : Mg mg) (FD : FunD K "_law_due" "_law_due" (defArgs (top 144)) (defBody (top 144)) (defScope (top 144)) [] [] f fd) (hm : mg "_law_due" = some (.ref f)) (c__law_bound : CF P w K mg base 5 "_law_bound" F__law_bound) (c__law_least_level : CF P w K mg base 5 "_law_least_level" F__law_least_level) (c__law_place : CF P w K mg base 4 "_law_place" F__law_place) (c__law_read_off : CF P w K mg base 6 "_law_read_off" F__law_read_off) (c__law_sides : CF P w K mg base 5 "_law_sides" F__law_sides) (c__law_told : CF P w K mg base 2 "_law_told" F__law_told) : CF P w K mg base 7 "_law_due" F__law_due := by
  rw [hx__law_due]
  exact fn_F (g := g__law_due) (k := 6) FD hm (FD.bindsN fun _ _ _ _ _ _ us hl => match us, hl with | [_, _, _, _], _ => rfl) sc__law_due fun cdv A outer s H E hr =>
    have nd := sc__law_due.nd
    have hu4 := room4 hr
    have hu5 := room5 hr
    l_cons (s_setF (i := 4) nd rfl (Or.inl rfl) (c_call bkF c__law_read_off hr (by decide) rfl (a_cons (c_nF (pv 0)) (a_cons (c_nF (pv 1)) (a_cons (c_nF (pv 2)) (a_cons (c_nF (pv 3)) (a_nil))))))) (l_cons (s_if (b_eqE hu4 (c_nQ (pv 4)) (qO (c_lst (a_nil)))) (l_one (s_retF (c_none))) (l_nil)) (l_cons (s_setF (i := 5) nd rfl (Or.inl rfl) (c_call bkF c__law_least_level hr (by decide) rfl (a_cons (c_nF (pv 0)) (a_cons (c_nF (pv 1)) (a_cons (c_nF (pv 2)) (a_cons (c_nF (pv 4)) (a_nil))))))) (l_cons (s_if (b_w (w_or (b_isN (c_nQ (pv 5)) (qF (c_none))) (w_or1 (b_gt (qF (c_mul (c_nQ (pv 5)) (c_nQ (pv 1)))) (qF (c_int)))))) (l_one (s_retF (c_str))) (l_nil)) (l_cons (s_setF (i := 6) nd rfl (Or.inl rfl) (c_call bkF c__law_bound hr (by decide) rfl (a_cons (c_nF (pv 0)) (a_cons (c_nF (pv 1)) (a_cons (c_nF (pv 2)) (a_cons (c_nF (pv 4)) (a_cons (c_nF (pv 5)) (a_nil)))))))) (l_cons (s_if (b_gt (qF (c_ix hu4 (c_nQ (pv 6)) (qF (c_int)) (fun _ _ => rfl))) (qF (c_mul (qF (c_int)) (qF (c_ix hu4 (c_nQ (pv 6)) (qF (c_int)) (fun _ _ => rfl)))))) (l_one (s_retF (c_str))) (l_nil)) (l_cons (s_setF (i := 7) nd rfl (Or.inl rfl) (c_add (qF (c_max3 rfl rfl M.b_max (qF (c_div (qF (c_ix hu4 (c_nQ (pv 6)) (qF (c_int)) (fun _ _ => rfl))) (qF (c_ix hu4 (c_nQ (pv 6)) (qF (c_int)) (fun _ _ => rfl))))) (qF (c_call bkF c__law_place hr (by decide) rfl (a_cons (c_nF (pv 0)) (a_cons (c_nF (pv 1)) (a_cons (c_nF (pv 2)) (a_cons (c_ix hu4 (qF (c_ix hu4 (c_nQ (pv 4)) (qF (c_int)) (fun _ _ => rfl))) (qF (c_int)) (fun _ _ => rfl)) (a_nil))))))) (qF (c_int)))) (qF (c_int)))) (l_cons (s_asg (c_call bkF c__law_sides hr (by decide) rfl (a_cons (c_nF (pv 0)) (a_cons (c_nF (pv 1)) (a_cons (c_nF (pv 2)) (a_cons (c_nF (pv 4)) (a_cons (c_nF (pv 7)) (a_nil))))))) (g_tup rfl (gs_cons (g_nm (pg_name nd rfl (by first | exact Or.inl rfl | exact Or.inr rfl) (i := 8))) (gs_cons (g_nm (pg_name nd rfl (by first | exact Or.inl rfl | exact Or.inr rfl) (i := 9))) (gs_nil))))) (l_one (s_retF (c_if (b_eq hu4 (c_nQ (pv 8)) (c_nQ (pv 9))) (c_call bkF c__law_told hr (by decide) rfl (a_cons (c_nF (pv 4)) (a_nil))) (c_none)))))))))))
noncomputable def g_found_of : Sx := sCons (sSet 4 (fCall (aCons (nF 0) (aCons (nF 1) (aCons (nF 2) (aCons (nF 3) (aNil))))) F_want_level_for)) (sCons (sSet 5 (b2 (fCall (aCons (nF 0) (aCons (nF 1) (aCons (nF 2) (aCons (nF 3) (aCons (nF 4) (aNil)))))) F_places_wanted) (fCall (aCons (nF 0) (aCons (nF 1) (aCons (nF 2) (aCons (b2 (nQ 3) (u1 (kD (.int 1)) aNeg) gIx) (aNil))))) F_place_of_term) gMax2)) (sCons (sDrop (fCall (aCons (nF 1) (aCons (nF 2) (aCons (nF 5) (aNil)))) F_want_reached)) (sCons (sSet 6 (fCall (aCons (nF 0) (aCons (nF 1) (aCons (nF 2) (aCons (nF 3) (aNil))))) F_coefficients_of)) (sCons (sIf (oB (b2 (fCall (aCons (nF 0) (aCons (nF 1) (aCons (nF 2) (aCons (nF 6) (aCons (nF 5) (aNil)))))) F_first_parting) (kD .none) cNotN)) (sRet (kD .none)) (sNil)) (sCons (sSet 7 (u1 (fLc (sqOf (nF 6)) (bNm 8) (oB (b2 (b2 (nQ 8) (kD (.int 0)) gIx) (kD (.int 0)) cNe)) (nF 8) [8]) gTupl)) (sCons (sDrop (fCall (aCons (fLc (sqOf (nF 7)) (bTup 2 (bsCons (bNm 9) (bsCons (bNm 8) (bsNil)))) (bYes) (nF 9) [9, 8]) (aNil)) F_want_digits)) (sRet (iF (oB (b2 (nQ 7) (fTup (aNil)) cEq)) (kD .none) (nF 7)))))))))
noncomputable def h_found_of : Sx := xsCons (xsSet 4 (xfCall (xaCons (xnF 0) (xaCons (xnF 1) (xaCons (xnF 2) (xaCons (xnF 3) (aNil))))) F_want_level_for)) (xsCons (xsSet 5 (xb2 (xfCall (xaCons (xnF 0) (xaCons (xnF 1) (xaCons (xnF 2) (xaCons (xnF 3) (xaCons (xnF 4) (aNil)))))) F_places_wanted) (xfCall (xaCons (xnF 0) (xaCons (xnF 1) (xaCons (xnF 2) (xaCons (xb2 (xnQ 3) (xu1 (kD (.int 1)) aNeg) xIx) (aNil))))) F_place_of_term) gMax2)) (xsCons (sDrop (xfCall (xaCons (xnF 1) (xaCons (xnF 2) (xaCons (xnF 5) (aNil)))) F_want_reached)) (xsCons (xsSet 6 (xfCall (xaCons (xnF 0) (xaCons (xnF 1) (xaCons (xnF 2) (xaCons (xnF 3) (aNil))))) F_coefficients_of)) (xsCons (xsIf (xoB (xb2 (xfCall (xaCons (xnF 0) (xaCons (xnF 1) (xaCons (xnF 2) (xaCons (xnF 6) (xaCons (xnF 5) (aNil)))))) F_first_parting) (kD .none) cNotN)) (xsRet (kD .none)) (sNil)) (xsCons (xsSet 7 (xu1 (xfLc (xsqOf (xnF 6)) (xbNm 8) (xoB (xb2 (xb2 (xnQ 8) (kD (.int 0)) xIx) (kD (.int 0)) xNe)) (xnF 8) [8]) gTupl)) (xsCons (sDrop (xfCall (xaCons (xfLc (xsqOf (xnF 7)) (xbTup 2 (xbsCons (xbNm 9) (xbsCons (xbNm 8) (bsNil)))) (bYes) (xnF 9) [9, 8]) (aNil)) F_want_digits)) (xsRet (xiF (xoB (xb2 (xnQ 7) (xfTup (aNil)) xEq)) (kD .none) (xnF 7)))))))))
noncomputable def F_found_of : List PyData → Option PyData := xrunF 10 4 h_found_of
theorem hx_found_of : F_found_of = runF 10 4 g_found_of := by
  unfold F_found_of
  rw [xrunF_eq]
  congr 1
  unfold h_found_of g_found_of
  simp only [xEq_eq, xIx_eq, xNe_eq, xaCons_eq, xb2_eq, xbNm_eq, xbTup_eq, xbsCons_eq, xfCall_eq, xfLc_eq, xfTup_eq, xiF_eq, xnF_eq, xnQ_eq, xoB_eq, xsCons_eq, xsIf_eq, xsRet_eq, xsSet_eq, xsqOf_eq, xu1_eq]
theorem sc_found_of : FnScope ["product", "m", "t", "products", "level", "last", "terms", "found", "one", "coefficient"] ["product", "m", "t", "products"] (defScope (top 105)) := ⟨rfl, rfl, rfl, by decide +kernel, rfl, by decide +kernel, by decide +kernel⟩
theorem cal_found_of (M : Mg mg) (FD : FunD K "found_of" "found_of" (defArgs (top 105)) (defBody (top 105)) (defScope (top 105)) [] [] f fd) (hm : mg "found_of" = some (.ref f)) (c_coefficients_of : CF P w K mg base 5 "coefficients_of" F_coefficients_of) (c_first_parting : CF P w K mg base 6 "first_parting" F_first_parting) (c_place_of_term : CF P w K mg base 4 "place_of_term" F_place_of_term) (c_places_wanted : CF P w K mg base 6 "places_wanted" F_places_wanted) (c_want_digits : CF P w K mg base 1 "want_digits" F_want_digits) (c_want_level_for : CF P w K mg base 7 "want_level_for" F_want_level_for) (c_want_reached : CF P w K mg base 1 "want_reached" F_want_reached) : CF P w K mg base 8 "found_of" F_found_of := by
  rw [hx_found_of]
  exact fn_F (g := g_found_of) (k := 7) FD hm (FD.bindsN fun _ _ _ _ _ _ us hl => match us, hl with | [_, _, _, _], _ => rfl) sc_found_of fun cdv A outer s H E hr =>
    have nd := sc_found_of.nd
    have hu4 := room4 hr
    have hu5 := room5 hr
    l_cons (s_setF (i := 4) nd rfl (Or.inl rfl) (c_call bkF c_want_level_for hr (by decide) rfl (a_cons (c_nF (pv 0)) (a_cons (c_nF (pv 1)) (a_cons (c_nF (pv 2)) (a_cons (c_nF (pv 3)) (a_nil))))))) (l_cons (s_setF (i := 5) nd rfl (Or.inl rfl) (c_max2 rfl rfl M.b_max (qF (c_call bkF c_places_wanted hr (by decide) rfl (a_cons (c_nF (pv 0)) (a_cons (c_nF (pv 1)) (a_cons (c_nF (pv 2)) (a_cons (c_nF (pv 3)) (a_cons (c_nF (pv 4)) (a_nil)))))))) (qF (c_call bkF c_place_of_term hr (by decide) rfl (a_cons (c_nF (pv 0)) (a_cons (c_nF (pv 1)) (a_cons (c_nF (pv 2)) (a_cons (c_ix hu4 (c_nQ (pv 3)) (qF (c_neg (qF (c_int)))) (fun _ _ => rfl)) (a_nil))))))))) (l_cons (s_expr (c_call bkF c_want_reached hr (by decide) rfl (a_cons (c_nF (pv 1)) (a_cons (c_nF (pv 2)) (a_cons (c_nF (pv 5)) (a_nil)))))) (l_cons (s_setF (i := 6) nd rfl (Or.inl rfl) (c_call bkF c_coefficients_of hr (by decide) rfl (a_cons (c_nF (pv 0)) (a_cons (c_nF (pv 1)) (a_cons (c_nF (pv 2)) (a_cons (c_nF (pv 3)) (a_nil))))))) (l_cons (s_if (b_notN (qF (c_call bkF c_first_parting hr (by decide) rfl (a_cons (c_nF (pv 0)) (a_cons (c_nF (pv 1)) (a_cons (c_nF (pv 2)) (a_cons (c_nF (pv 6)) (a_cons (c_nF (pv 5)) (a_nil)))))))) (qF (c_none))) (l_one (s_retF (c_none))) (l_nil)) (l_cons (s_setF (i := 7) nd rfl (Or.inl rfl) (c_tuple rfl M.b_tuple (qO (c_lc (own := [("one", 8)]) rfl nd (i_sq (c_nF (pv 6))) (blkOk_by (N := ["product", "m", "t", "products", "level", "last", "terms", "found", "one", "coefficient"]) (sc := defScope (top 105)) (by decide +kernel)) (fun _ _ _ _ _ => g_nm (pg_name nd rfl (by first | exact Or.inl rfl | exact Or.inr rfl) (i := 8))) (fun _ _ _ _ _ => t_one (b_ne hu4 (qF (c_ix hu4 (c_nQ (pv 8)) (qF (c_int)) (fun _ _ => rfl))) (qF (c_int)))) (fun _ _ _ _ _ => c_nF (pv 8)) (by decide))))) (l_cons (s_expr (c_call bkF c_want_digits hr (by decide) rfl (a_cons (fO (c_lc (own := [("coefficient", 9), ("one", 8)]) rfl nd (i_sq (c_nF (pv 7))) (blkOk_by (N := ["product", "m", "t", "products", "level", "last", "terms", "found", "one", "coefficient"]) (sc := defScope (top 105)) (by decide +kernel)) (fun _ _ _ _ _ => g_tup rfl (gs_cons (g_nm (pg_name nd rfl (by first | exact Or.inl rfl | exact Or.inr rfl) (i := 9))) (gs_cons (g_nm (pg_name nd rfl (by first | exact Or.inl rfl | exact Or.inr rfl) (i := 8))) (gs_nil)))) (fun _ _ _ _ _ => t_nil) (fun _ _ _ _ _ => c_nF (pv 9)) (by decide))) (a_nil)))) (l_one (s_retF (c_if (b_eq hu4 (c_nQ (pv 7)) (qF (c_tup (a_nil)))) (c_none) (c_nF (pv 7)))))))))))
noncomputable def g_found_terms : Sx := sCons (sDrop (fCall (aCons (nF 0) (aCons (nF 1) (aCons (nF 2) (aNil)))) F_want_section)) (sCons (sIf (bOr (bNot (oB (fCall (aCons (nF 3) (aNil)) F_is_list))) (bNot (oB (ch3 (kD (.int 1)) (u1 (nQ 3) gLen) (kD (.int k_MOST_TERMS)) pLe pLe)))) (sNo) (sNil)) (sCons (sIf (bOr (bNot (oB (u1 (fLc (sqOf (nF 3)) (bNm 4) (bYes) (fCall (aCons (nF 4) (aNil)) F_is_product_value) [4]) gAll))) (bNot (oB (fCall (aCons (nF 0) (aCons (nF 1) (aCons (nF 2) (aCons (nF 3) (aNil))))) F_are_right)))) (sNo) (sNil)) (sRet (fCall (aCons (nF 0) (aCons (nF 1) (aCons (nF 2) (aCons (u1 (nQ 3) gList) (aNil))))) F_found_of))))
noncomputable def h_found_terms : Sx := xsCons (sDrop (xfCall (xaCons (xnF 0) (xaCons (xnF 1) (xaCons (xnF 2) (aNil)))) F_want_section)) (xsCons (xsIf (xbOr (xbNot (xoB (xfCall (xaCons (xnF 3) (aNil)) F_is_list))) (xbNot (xoB (ch3 (kD (.int 1)) (xu1 (xnQ 3) gLen) (kD (.int k_MOST_TERMS)) pLe pLe)))) (sNo) (sNil)) (xsCons (xsIf (xbOr (xbNot (xoB (xu1 (xfLc (xsqOf (xnF 3)) (xbNm 4) (bYes) (xfCall (xaCons (xnF 4) (aNil)) F_is_product_value) [4]) gAll))) (xbNot (xoB (xfCall (xaCons (xnF 0) (xaCons (xnF 1) (xaCons (xnF 2) (xaCons (xnF 3) (aNil))))) F_are_right)))) (sNo) (sNil)) (xsRet (xfCall (xaCons (xnF 0) (xaCons (xnF 1) (xaCons (xnF 2) (xaCons (xu1 (xnQ 3) gList) (aNil))))) F_found_of))))
noncomputable def F_found_terms : List PyData → Option PyData := xrunF 5 4 h_found_terms
theorem hx_found_terms : F_found_terms = runF 5 4 g_found_terms := by
  unfold F_found_terms
  rw [xrunF_eq]
  congr 1
  unfold h_found_terms g_found_terms
  simp only [xaCons_eq, xbNm_eq, xbNot_eq, xbOr_eq, xfCall_eq, xfLc_eq, xnF_eq, xnQ_eq, xoB_eq, xsCons_eq, xsIf_eq, xsRet_eq, xsqOf_eq, xu1_eq]
theorem sc_found_terms : FnScope ["product", "m", "t", "products", "one"] ["product", "m", "t", "products"] (defScope (top 107)) := ⟨rfl, rfl, rfl, by decide +kernel, rfl, by decide +kernel, by decide +kernel⟩
theorem cal_found_terms (M : Mg mg) (FD : FunD K "found_terms" "found_terms" (defArgs (top 107)) (defBody (top 107)) (defScope (top 107)) [] [] f fd) (hm : mg "found_terms" = some (.ref f)) (c_are_right : CF P w K mg base 5 "are_right" F_are_right) (c_found_of : CF P w K mg base 8 "found_of" F_found_of) (c_is_list : CF P w K mg base 1 "is_list" F_is_list) (c_is_product_value : CF P w K mg base 3 "is_product_value" F_is_product_value) (c_want_section : CF P w K mg base 5 "want_section" F_want_section) : CF P w K mg base 9 "found_terms" F_found_terms := by
  rw [hx_found_terms]
  exact fn_F (g := g_found_terms) (k := 8) FD hm (FD.bindsN fun _ _ _ _ _ _ us hl => match us, hl with | [_, _, _, _], _ => rfl) sc_found_terms fun cdv A outer s H E hr =>
    have nd := sc_found_terms.nd
    have hu4 := room4 hr
    have hu5 := room5 hr
    l_cons (s_expr (c_call bkF c_want_section hr (by decide) rfl (a_cons (c_nF (pv 0)) (a_cons (c_nF (pv 1)) (a_cons (c_nF (pv 2)) (a_nil)))))) (l_cons (s_if (b_w (w_or (b_not (b_val (c_call bkF c_is_list hr (by decide) rfl (a_cons (c_nF (pv 3)) (a_nil))))) (w_or1 (b_not (b_ch op_le op_le (qF (c_int)) (qF (c_len rfl M.b_len (c_nQ (pv 3)))) (qF (c_gint rfl M.c_MOST_TERMS))))))) (l_no) (l_nil)) (l_cons (s_if (b_w (w_or (b_not (b_val (c_all rfl rfl M.b_all (qO (c_lc (own := [("one", 4)]) rfl nd (i_sq (c_nF (pv 3))) (blkOk_by (N := ["product", "m", "t", "products", "one"]) (sc := defScope (top 107)) (by decide +kernel)) (fun _ _ _ _ _ => g_nm (pg_name nd rfl (by first | exact Or.inl rfl | exact Or.inr rfl) (i := 4))) (fun _ _ _ _ _ => t_nil) (fun _ _ _ _ _ => c_call bkF c_is_product_value hr (by decide) rfl (a_cons (c_nF (pv 4)) (a_nil))) (by decide)))))) (w_or1 (b_not (b_val (c_call bkF c_are_right hr (by decide) rfl (a_cons (c_nF (pv 0)) (a_cons (c_nF (pv 1)) (a_cons (c_nF (pv 2)) (a_cons (c_nF (pv 3)) (a_nil))))))))))) (l_no) (l_nil)) (l_one (s_retF (c_call bkF c_found_of hr (by decide) rfl (a_cons (c_nF (pv 0)) (a_cons (c_nF (pv 1)) (a_cons (c_nF (pv 2)) (a_cons (fO (c_list rfl rfl M.b_list (c_nQ (pv 3)))) (a_nil))))))))))
noncomputable def g_looked : Sx := sCons (sSet 5 (fCall (aCons (nF 0) (aCons (nF 1) (aCons (nF 2) (aCons (nF 3) (aCons (nF 4) (aNil)))))) F_candidates)) (sRet (iF (oB (b2 (nQ 5) (fLst (aNil)) cEqE)) (kD .none) (fCall (aCons (nF 0) (aCons (nF 1) (aCons (nF 2) (aCons (fLc (sqOf (nF 5)) (bTup 2 (bsCons (bNm 6) (bsCons (bNm 7) (bsNil)))) (bYes) (nF 7) [6, 7]) (aNil))))) F_found_of)))
noncomputable def h_looked : Sx := xsCons (xsSet 5 (xfCall (xaCons (xnF 0) (xaCons (xnF 1) (xaCons (xnF 2) (xaCons (xnF 3) (xaCons (xnF 4) (aNil)))))) F_candidates)) (xsRet (xiF (xoB (xb2 (xnQ 5) (fLst (aNil)) cEqE)) (kD .none) (xfCall (xaCons (xnF 0) (xaCons (xnF 1) (xaCons (xnF 2) (xaCons (xfLc (xsqOf (xnF 5)) (xbTup 2 (xbsCons (xbNm 6) (xbsCons (xbNm 7) (bsNil)))) (bYes) (xnF 7) [6, 7]) (aNil))))) F_found_of)))
noncomputable def F_looked : List PyData → Option PyData := xrunF 8 5 h_looked
theorem hx_looked : F_looked = runF 8 5 g_looked := by
  unfold F_looked
  rw [xrunF_eq]
  congr 1
  unfold h_looked g_looked
  simp only [xaCons_eq, xb2_eq, xbNm_eq, xbTup_eq, xbsCons_eq, xfCall_eq, xfLc_eq, xiF_eq, xnF_eq, xnQ_eq, xoB_eq, xsCons_eq, xsRet_eq, xsSet_eq, xsqOf_eq]
theorem sc_looked : FnScope ["product", "m", "t", "level", "many", "found", "place", "one"] ["product", "m", "t", "level", "many"] (defScope (top 109)) := ⟨rfl, rfl, rfl, by decide +kernel, rfl, by decide +kernel, by decide +kernel⟩
theorem cal_looked (M : Mg mg) (FD : FunD K "looked" "looked" (defArgs (top 109)) (defBody (top 109)) (defScope (top 109)) [] [] f fd) (hm : mg "looked" = some (.ref f)) (c_candidates : CO P w K mg base 6 "candidates" F_candidates) (c_found_of : CF P w K mg base 8 "found_of" F_found_of) : CF P w K mg base 9 "looked" F_looked := by
  rw [hx_looked]
  exact fn_F (g := g_looked) (k := 8) FD hm (FD.bindsN fun _ _ _ _ _ _ us hl => match us, hl with | [_, _, _, _, _], _ => rfl) sc_looked fun cdv A outer s H E hr =>
    have nd := sc_looked.nd
    have hu4 := room4 hr
    have hu5 := room5 hr
    l_cons (s_setF (i := 5) nd rfl (Or.inl rfl) (fO (c_call bkO c_candidates hr (by decide) rfl (a_cons (c_nF (pv 0)) (a_cons (c_nF (pv 1)) (a_cons (c_nF (pv 2)) (a_cons (c_nF (pv 3)) (a_cons (c_nF (pv 4)) (a_nil))))))))) (l_one (s_retF (c_if (b_eqE hu4 (c_nQ (pv 5)) (qO (c_lst (a_nil)))) (c_none) (c_call bkF c_found_of hr (by decide) rfl (a_cons (c_nF (pv 0)) (a_cons (c_nF (pv 1)) (a_cons (c_nF (pv 2)) (a_cons (fO (c_lc (own := [("place", 6), ("one", 7)]) rfl nd (i_sq (c_nF (pv 5))) (blkOk_by (N := ["product", "m", "t", "level", "many", "found", "place", "one"]) (sc := defScope (top 109)) (by decide +kernel)) (fun _ _ _ _ _ => g_tup rfl (gs_cons (g_nm (pg_name nd rfl (by first | exact Or.inl rfl | exact Or.inr rfl) (i := 6))) (gs_cons (g_nm (pg_name nd rfl (by first | exact Or.inl rfl | exact Or.inr rfl) (i := 7))) (gs_nil)))) (fun _ _ _ _ _ => t_nil) (fun _ _ _ _ _ => c_nF (pv 7)) (by decide))) (a_nil)))))))))
end
end Q7

-- part Qp
set_option Elab.async false
set_option linter.all false
set_option maxRecDepth 100000
/-! Qp: rules of the rarer constructs. -/
namespace Q7
open PySem PySem.Spec PyProof.Rows L2

/-- d[k], y = a, b -/
theorem s_asgK {X : Cx} {R : Md} {i j : Nat} {o ki a b : Expr} {y : Str} {py pt pt2 pos pos' : Pos} {kt k2 : Nat} {fk f1 f2 : Nv → Option PyData} (hu : X.A.units + 64 < cLine) (ho : PE X o (tVar i)) (hk : PQ X ki fk) (ha : PF X a f1) (hb : PF X b f2) (hg : PG X (.Name y py) (gName j)) (hc : X.calm = true := by rfl)
    (hst : ∀ v, assign (.Subscript o ki pos') X.env v = (do
      let ov ← holding [v] (eval o X.env)
      let iv ← holding [v, ov] (eval ki X.env)
      standAt pos'
      holding [v, ov, iv] (setItem ov iv v)
      release [v, ov, iv] []) := by intro _; rfl)
    (hw : swappedStores [.Tuple [.Subscript o ki pos', .Name y py] kt pt] (.Tuple [a, b] k2 pt2) X.env = pure none := by rfl) (hs : swapsWithSole [.Tuple [.Subscript o ki pos', .Name y py] kt pt] (.Tuple [a, b] k2 pt2) pos.line X.env = pure false := by rfl)
    (h1 : (assignEach [.Tuple [.Subscript o ki pos', .Name y py] kt pt] X.env).map (·.2) = [assign (.Tuple [.Subscript o ki pos', .Name y py] kt pt) X.env] := by rfl) (hs1 : starEach [a, b] X.env = (false, eval a X.env) :: starEach [b] X.env := by rfl) (hs2 : starEach [b] X.env = (false, eval b X.env) :: starEach [] X.env := by rfl) :
    PSr X R (.Assign [.Tuple [.Subscript o ki pos', .Name y py] kt pt] (.Tuple [a, b] k2 pt2) pos) (sAsgK i j fk f1 f2) :=
  ps_imp (ps_asg (pe_tup (pa_cons ha (pa_cons hb pa_nil hs2) hs1)) (pg_tup hc (pgs_cons (pg_sub ho hk (set_dict (by omega)) hst) (pgs_cons hg pgs_nil))) hs hw h1) fun D σ H ⟨B, Hf, env, out, S, z, k⟩ => by
    obtain ⟨d1, z1, z⟩ := Option.bind_eq_some_iff.mp z
    obtain ⟨d2, z2, z⟩ := Option.bind_eq_some_iff.mp z
    obtain ⟨od, z3, z⟩ := Option.bind_eq_some_iff.mp z
    obtain ⟨kd, z4, z⟩ := Option.bind_eq_some_iff.mp z
    obtain ⟨o', z5, rfl⟩ := Option.map_eq_some_iff.mp z
    obtain ⟨es, ik, rfl, rfl, q, rfl⟩ := putK'_some z5
    have ei := nW_at z3
    refine ⟨B, Hf, env, d1, S, z1, fun v1 Hf1 H1 S1 s1 g1 r1 => ⟨B, Hf1, env, d2, S1, z2, fun v2 Hf2 H2 S2 s2 g2 r2 => ⟨by show 2 ≤ sizeLine; decide, fun T hT => ⟨T, [v1, v2], rfl, .inl (.inl upd_same), rfl, v1, [v2], rfl, ?_⟩⟩⟩⟩
    have S3 := S2.new (o := .tup [v1, v2]) hT
    obtain ⟨p, e1, bp, fp, kvs, hp, rk⟩ := S3.cell i _ ei
    refine ⟨.ref p, e1, B, Hf2, env, _, S3, z4, fun u Hf4 H4 S4 s4 g4 r4 => ?_⟩
    have e2 := rq_int r4
    subst e2
    obtain ⟨p2, e2, _, fp2, kvs2, hp2, rk2⟩ := S4.cell i _ ei
    cases e1.symm.trans e2
    refine ⟨p, _, rfl, DPut.k (k := Sum.inl ik) hp2 (by rw [rk2.length]; exact line3 q), v2, [], rfl, rfl, ?_⟩
    have sn : Same H2 (upd H2 T (.tup [v1, v2])) := same_new hT
    have S5 := st_chg S4 ei e1 bp fp2 (d' := .dict (dPut es ik d1)) (o := .dK (putK kvs2 (Sum.inl ik) v1)) ⟨_, upd_same, rpK_put (Rp.mono g4.same _ _ (Rp.mono g2.same _ _ r1)) rk2⟩
    exact k _ Hf4 _ (set_fr S5 (Rp.mono g4.same _ _ r2)) ((g1.toB S.base).tr ((g2.toB S1.base).tr (g4.toB S3.base)))
section
variable {X : Cx} {a b : Expr} {f1 f2 : Nv → Option PyData} {p tpos pos : Pos} {elts : List Expr} {kk : Nat}
theorem tsOf_some {f : Nv → Option PyData} {env : Nv} {ds : List PyData} (h : tsOf f env = some ds) : f env = some (.tuple ds) := by
  obtain ⟨d, z1, z2⟩ := Option.bind_eq_some_iff.mp h
  cases d <;> first | (cases z2; done) | skip
  cases z2
  exact z1
theorem wk_zipT {K : PySem.W.Frag} {B Hf : Hp} {q q2 : Addr} {xs ys : List V} {ds es : List PyData} (h : SqT K Hf q xs) (r : RpA K Hf ds xs) (h2 : SqT K Hf q2 ys) (r2 : RpA K Hf es ys) : Wk K B Hf (RZ.ItzT K q q2) (zipD ds es) where
  go := fun i H Hf2 hi s sb _ => by
    rw [zipD_len] at hi
    obtain ⟨x, e, _⟩ := r.get (List.getElem?_eq_getElem (show i < ds.length by omega))
    obtain ⟨y, e2, _⟩ := r2.get (List.getElem?_eq_getElem (show i < es.length by omega))
    exact ⟨xs, ys, x, y, sb.tup (Sub.tup (.of s) h), sb.tup (Sub.tup (.of s) h2), e, e2⟩
  stop := fun H Hf2 s sb _ => ⟨xs, ys, sb.tup (Sub.tup (.of s) h), sb.tup (Sub.tup (.of s) h2), by
    rw [zipD_len, r.length, r2.length]
    omega⟩
  yld := fun i H Hf2 d x H' hd s sb _ ⟨T, x1, y1, e, hT, eH, f, f2⟩ => by
    subst e eH
    obtain ⟨d1, d2, e1, e2, rfl⟩ := zipD_get ds es i d hd
    obtain ⟨x2, e3, r3⟩ := r.get e1
    obtain ⟨y2, e4, r4⟩ := r2.get e2
    have e5 := f xs (sb.tup (Sub.tup (.of s) h))
    have e6 := f2 ys (sb.tup (Sub.tup (.of s) h2))
    rw [e3] at e5
    rw [e4] at e6
    cases e5
    cases e6
    exact ⟨_, new_pair sb hT (Rp.mono s _ _ r3) (Rp.mono s _ _ r4)⟩
theorem i_zipTT (hg : Gl X "zip") (hm : X.mg "zip" = none) (ha : PF X a f1) (hb : PF X b f2) (hs : starEach [a, b] X.env = (false, eval a X.env) :: starEach [b] X.env := by rfl) (hs2 : starEach [b] X.env = (false, eval b X.env) :: starEach [] X.env := by rfl)
    (hpl : (backTo pos (starEach [b] X.env)).any (·.1) = false := by rfl) : PIr X (.Tuple elts kk tpos) (.Call (.Name "zip" p) [a, b] [] pos) (zpTTOf f1 f2) :=
  pi_imp (RZ.pi_zipA hg hm (pa_cons ha (pa_cons hb pa_nil hs2) hs) hs hpl) fun σ H R ⟨B, Hf, env, ds, S, z, k⟩ => by
    obtain ⟨ds, z1, z2⟩ := Option.bind_eq_some_iff.mp z
    obtain ⟨es, z3, rfl⟩ := Option.map_eq_some_iff.mp z2
    exact ⟨B, Hf, env, _, S, tsOf_some z1, fun v Hf1 H1 S1 s1 g1 ⟨q, xs, e, hq, r⟩ => ⟨B, Hf1, env, _, S1, tsOf_some z3, fun v2 Hf2 H2 S2 s2 g2 ⟨q2, ys, e2, hq2, r2⟩ => by
      subst e e2
      have h1 := Sub.tup (.of g2.same) hq
      exact ⟨q, q2, xs, ys, rfl, .inr ⟨S2.sub.tup h1, S2.sub.tup hq2, k _ Hf2 H2 S2 (s1.trans s2) (g1.trans s1 g2) (wk_zipT h1 (RpA.mono g2.same _ _ r) hq2 r2)⟩⟩⟩⟩
end
end Q7

-- part Qp2
set_option Elab.async false
set_option linter.all false
set_option maxRecDepth 100000
/-! Qp2: zip of a list and a tuple. -/
namespace Q7
open PySem PySem.Spec PyProof.Rows L2

theorem mem5 {P : Addr → Prop} {a b c d e x : Addr} (h : x ∈ [a, b, c, d, e]) (ha : P a) (hb : P b) (hc : P c) (hd : P d) (he : P e) : P x := by
  simp only [List.mem_cons, List.not_mem_nil, or_false] at h
  rcases h with q | q | q | q | q
  · rw [q]; exact ha
  · rw [q]; exact hb
  · rw [q]; exact hc
  · rw [q]; exact hd
  · rw [q]; exact he
theorem not5 {a b c d e x : Addr} (h : x ∉ [a, b, c, d, e]) : x ≠ a ∧ x ≠ b ∧ x ≠ c ∧ x ≠ d ∧ x ≠ e := by
  simp only [List.mem_cons, List.not_mem_nil, or_false, not_or] at h
  exact h
/-- list and tuple, side by side -/
def ItzM (K : PySem.W.Frag) (a b : Addr) : It where
  go := fun i H => ∃ (xs ys : List V) (x y : V), SqL K H a xs ∧ SqT K H b ys ∧ xs[i]? = some x ∧ ys[i]? = some y
  yld := fun i H v H' => ∃ T x y, v = .ref T ∧ H T = none ∧ H' = upd H T (.tup [x, y]) ∧ (∀ xs, SqL K H a xs → xs[i]? = some x) ∧ ∀ ys, SqT K H b ys → ys[i]? = some y
  stop := fun i H => ∃ xs ys : List V, SqL K H a xs ∧ SqT K H b ys ∧ i ≤ xs.length ∧ i ≤ ys.length ∧ (i = xs.length ∨ i = ys.length)
theorem sepM {z TI TO i1 i2 a b : Addr} (D : ZipApart z TI TO i1 i2 a b) : ZipSep2 z TI TO i1 i2 [i1, a] [i2, b] where
  TIz := D.TIz
  TOz := D.TOz
  TITO := D.TITO
  TIi1 := D.TIi1
  mem1 := List.mem_cons_self
  zf1 := by simp only [List.mem_cons, List.not_mem_nil, or_false, not_or]; exact ⟨D.i1z.symm, D.l1z.symm⟩
  Tf1 := by simp only [List.mem_cons, List.not_mem_nil, or_false, not_or]; exact ⟨D.TOi1, D.l1TO.symm⟩
  TIi2 := D.TIi2
  mem2 := List.mem_cons_self
  zf2 := by simp only [List.mem_cons, List.not_mem_nil, or_false, not_or]; exact ⟨D.i2z.symm, D.l2z.symm⟩
  Tf2 := by simp only [List.mem_cons, List.not_mem_nil, or_false, not_or]; exact ⟨D.TOi2, D.l2TO.symm⟩
  sep1_2 := by simp only [List.mem_cons, List.not_mem_nil, or_false, not_or]; exact ⟨D.i12, D.l2i1.symm⟩
  sep2_1 := by simp only [List.mem_cons, List.not_mem_nil, or_false, not_or]; exact ⟨D.i12.symm, D.l1i2.symm⟩
def tnM (a b z TI TO i1 i2 : Addr) (i : Nat) (h : Heap) : Prop := IsZip h z TI TO .none ∧ IsTupOf2 h TI (.ref i1) (.ref i2) ∧ (∃ x y, IsTupOf2 h TO x y) ∧ h.IsListIter i1 a i ∧ h.IsTupleIter i2 b i
theorem turnM {P : Program} {w : World} {K : PySem.W.Frag} {elts : List Expr} {kk : Nat} {tpos : Pos} {a b z TI TO i1 i2 : Addr} (D : ZipApart z TI TO i1 i2 a b) : Turn P w K (.Tuple elts kk tpos) (ItzM K a b) [z, TI, TO, i1, i2] z (tnM a b z TI TO i1 i2) where
  mem := List.mem_cons_self
  obj := fun i h ⟨k1, k2, ⟨x, y, k3⟩, ⟨o1, e1, _, d1⟩, ⟨o2, e2, _, d2⟩⟩ c hc => mem5 (P := fun c => ∃ o, h.get? c = some o ∧ ∀ v, o.data ≠ .cell v) hc ⟨_, k1, fun v q => nomatch q⟩ ⟨_, k2, fun v q => nomatch q⟩ ⟨_, k3, fun v q => nomatch q⟩ ⟨o1, e1, fun v q => by rw [d1] at q; cases q⟩ ⟨o2, e2, fun v q => by rw [d2] at q; cases q⟩
  keep := fun i h h' ⟨k1, k2, ⟨x, y, k3⟩, k4, k5⟩ k => ⟨k z (by simp) _ k1, k TI (by simp) _ k2, ⟨x, y, k TO (by simp) _ k3⟩, k4.at fun o q => k i1 (by simp) o q, k5.at fun o q => k i2 (by simp) o q⟩
  item := by
    intro X hP hw hK hc i pins s σ H E I hf ⟨k1, k2, ⟨x0, y0, k3⟩, k4, k5⟩ ⟨xs, ys, x, y, qx, qy, hx, hy⟩
    subst hP hw hK
    obtain ⟨its, rv, p, _⟩ := I.list qx
    obtain ⟨its2, rv2, p2, _⟩ := I.tuple qy
    obtain ⟨u, hu, ru⟩ := rv.get hx
    obtain ⟨u2, hu2, ru2⟩ := rv2.get hy
    have l1 : i < its.toArray.size := by rw [List.size_toArray]; exact (List.getElem?_eq_some_iff.mp hu).1
    have l2 : i < its2.toArray.size := by rw [List.size_toArray]; exact (List.getElem?_eq_some_iff.mp hu2).1
    have hzl : z < s.heap.objs.size := Heap.lt_size k1
    have hh : X.A.in1.handled = none := by simpa using I.ok.hd hc
    have d1 := Draws.list (prog := X.prog) (w := X.w) hh i1 a D.l1i1 its.toArray
    have d2 := Draws.tuple (prog := X.prog) (w := X.w) hh i2 b D.l2i2 its2.toArray
    refine wpAny_pyNext_zipD2_item (sepM D) d1 d2 k1 k2 k3 ⟨k4, p.isList⟩ ⟨k5, p2⟩ l1 l2 fun v1 v2 h' tk e1 e2 z' TO' st1 st2 hT hsz hk => ?_
    have ev1 : v1 = u := by
      rw [List.getElem?_toArray, hu] at e1
      exact (Option.some.inj e1).symm
    have ev2 : v2 = u2 := by
      rw [List.getElem?_toArray, hu2] at e2
      exact (Option.some.inj e2).symm
    subst ev1 ev2
    refine ⟨_, rfl, wpAny_letOwnedTupleGo_zip (s := { s with heap := h', toks := tk }) z' fun h'' z'' sb => ?_⟩
    have hT2 : h''.get? s.heap.objs.size = some { cls := .type "tuple", data := .seq #[v1, v2] } := (sb.2 _ (Nat.ne_of_gt hzl)).trans hT
    have I1 : Inv X pins σ (upd H s.heap.objs.size (.tup [x, y])) { s with heap := h'', toks := tk } :=
      I.turnedNew (ch := [z, TI, TO, i1, i2]) (fun c o hb q => by
        obtain ⟨n1, n2, n3, n4, n5⟩ := not5 hb
        exact (sb.2 c n1).trans (hk c o n1 n3 n4 n5 q)) hf (Nat.le_refl _) ⟨by show 2 ≤ sizeLine; decide, [v1, v2], .cons ru (.cons ru2 .nil), ⟨_, hT2, rfl, _, rfl⟩⟩
    refine ⟨.ref s.heap.objs.size, _, I1, rfl, ⟨_, x, y, rfl, I.hok.fresh (Nat.le_refl _), rfl, fun l hl => by rw [I.list_inj hl qx]; exact hx, fun l hl => by rw [I.tuple_inj hl qy]; exact hy⟩, ⟨z'', (sb.2 _ D.TIz).trans (hk _ _ D.TIz D.TITO D.TIi1 D.TIi2 k2), ⟨v1, v2, (sb.2 _ D.TOz).trans TO'⟩, st1.1.at fun o q => (sb.2 _ D.i1z).trans q, st2.1.at fun o q => (sb.2 _ D.i2z).trans q⟩, fun c hcm => ?_⟩
    have hlt : c < s.heap.objs.size := mem5 (P := fun c => c < s.heap.objs.size) hcm hzl (Heap.lt_size k2) (Heap.lt_size k3) (by obtain ⟨_, e, _⟩ := k4; exact Heap.lt_size e) (by obtain ⟨_, e, _⟩ := k5; exact Heap.lt_size e)
    rw [upd_ne (Nat.ne_of_lt hlt)]
    exact (hf c hcm).1
  done := by
    intro X hP hw hK hc i pins s σ H E I hf ⟨k1, k2, ⟨x0, y0, k3⟩, k4, k5⟩ ⟨xs, ys, qx, qy, le1, le2, he⟩
    subst hP hw hK
    obtain ⟨its, rv, p, _⟩ := I.list qx
    obtain ⟨its2, rv2, p2, _⟩ := I.tuple qy
    have l1 : its.toArray.size = xs.length := by rw [List.size_toArray, ← rv.length]
    have l2 : its2.toArray.size = ys.length := by rw [List.size_toArray, ← rv2.length]
    have hh : X.A.in1.handled = none := by simpa using I.ok.hd hc
    have d1 := Draws.list (prog := X.prog) (w := X.w) hh i1 a D.l1i1 its.toArray
    have d2 := Draws.tuple (prog := X.prog) (w := X.w) hh i2 b D.l2i2 its2.toArray
    exact wpAny_pyNext_zipD2_end (sepM D) d1 d2 k1 k2 k3 ⟨k4, p.isList⟩ ⟨k5, p2⟩ (by rw [l1]; exact le1) (by rw [l2]; exact le2) (by rw [l1, l2]; exact he) fun h' tk hk => ⟨rfl, I.turnedL (t' := tk) (ch := [z, TI, TO, i1, i2]) (fun c o hb q => by
      obtain ⟨n1, n2, n3, n4, n5⟩ := not5 hb
      exact hk c o n1 n3 n4 n5 q) hf⟩
  self := fun A i s Q E st h => wpAny_pyIter_zip st.1 h
def iZipM (K : PySem.W.Frag) (ta : TA) : TI := fun σ H R => ta σ H fun vs H1 => ∃ a b xs ys, vs = [.ref a, .ref b] ∧ SqL K H1 a xs ∧ SqT K H1 b ys ∧ R (ItzM K a b) H1
theorem pi_zipM {X : Cx} {e e2 : Expr} {ta : TA} {p pos tpos : Pos} {elts : List Expr} {kk : Nat} (hg : Gl X "zip") (hm : X.mg "zip" = none) (ha : PA X [e, e2] ta)
    (hs : starEach [e, e2] X.env = (false, eval e X.env) :: starEach [e2] X.env := by rfl) (hpl : (backTo pos (starEach [e2] X.env)).any (·.1) = false := by rfl) : PI X (.Tuple elts kk tpos) (.Call (.Name "zip" p) [e, e2] [] pos) (iZipM X.K ta) := by
  refine ⟨fun pins s σ H R I h => ?_⟩
  refine Call_ (ld_blt I hg hm PyProof.Rows.boot_zip (PyProof.Rows.callWith_type1 (thn (ha.run pos pins s σ H _ I h) fun us s1 ⟨vs, H1, I1, r1, a, b, xs, ys, ex, qx, qy, q⟩ => ?_) hs hpl))
  subst ex
  cases r1 with
  | cons r rr =>
    cases rr with
    | cons r' rr =>
      cases rr
      cases r
      cases r'
      obtain ⟨its, rv, p1, _⟩ := I1.list qx
      obtain ⟨its2, rv2, p2, _⟩ := I1.tuple qy
      obtain ⟨o2, ho2, _⟩ := id p2
      refine zip_begins2 (begins_list a its.toArray) (begins_tuple b its2.toArray) p1.isList p2 fun h' hz hTI hTO g1 g2 hsz hk => wpAny_pyIter_zip hz ?_
      have I2 : Inv X pins σ H1 { s1 with heap := h' } := I1.kept (t' := s1.toks) hk
      refine ⟨s1.heap.objs.size + 4, _, _, _, H1, rfl, I2, turnM (PySem.W.ktu_apart s1.heap.objs.size a b p1.lt (Heap.lt_size ho2)), ⟨hz, hTI, ⟨_, _, hTO⟩, ⟨_, g1, rfl, rfl⟩, ⟨_, g2, rfl, rfl⟩⟩, fun c hcm => ?_, q⟩
      have hle : s1.heap.objs.size ≤ c := mem5 (P := fun c => s1.heap.objs.size ≤ c) hcm (Nat.le_add_right _ _) (Nat.le_add_right _ _) (Nat.le_add_right _ _) (Nat.le_refl _) (Nat.le_add_right _ _)
      exact I1.fpOk hle (I1.hok.fresh hle)
theorem wk_zipM {K : PySem.W.Frag} {B Hf : Hp} {q q2 : Addr} {xs ys : List V} {ds es : List PyData} (h : SqL K Hf q xs) (r : RpA K Hf ds xs) (h2 : SqT K Hf q2 ys) (r2 : RpA K Hf es ys) : Wk K B Hf (ItzM K q q2) (zipD ds es) where
  go := fun i H Hf2 hi s sb _ => by
    rw [zipD_len] at hi
    obtain ⟨x, e, _⟩ := r.get (List.getElem?_eq_getElem (show i < ds.length by omega))
    obtain ⟨y, e2, _⟩ := r2.get (List.getElem?_eq_getElem (show i < es.length by omega))
    exact ⟨xs, ys, x, y, sb.lst (Sub.lst (.of s) h), sb.tup (Sub.tup (.of s) h2), e, e2⟩
  stop := fun H Hf2 s sb _ => ⟨xs, ys, sb.lst (Sub.lst (.of s) h), sb.tup (Sub.tup (.of s) h2), by
    rw [zipD_len, r.length, r2.length]
    omega⟩
  yld := fun i H Hf2 d x H' hd s sb _ ⟨T, x1, y1, e, hT, eH, f, f2⟩ => by
    subst e eH
    obtain ⟨d1, d2, e1, e2, rfl⟩ := zipD_get ds es i d hd
    obtain ⟨x2, e3, r3⟩ := r.get e1
    obtain ⟨y2, e4, r4⟩ := r2.get e2
    have e5 := f xs (sb.lst (Sub.lst (.of s) h))
    have e6 := f2 ys (sb.tup (Sub.tup (.of s) h2))
    rw [e3] at e5
    rw [e4] at e6
    cases e5
    cases e6
    exact ⟨_, new_pair sb hT (Rp.mono s _ _ r3) (Rp.mono s _ _ r4)⟩
theorem i_zipLT {X : Cx} {a b : Expr} {f1 f2 : Nv → Option PyData} {p tpos pos : Pos} {elts : List Expr} {kk : Nat} (hg : Gl X "zip") (hm : X.mg "zip" = none) (ha : PF X a f1) (hb : PF X b f2) (hs : starEach [a, b] X.env = (false, eval a X.env) :: starEach [b] X.env := by rfl) (hs2 : starEach [b] X.env = (false, eval b X.env) :: starEach [] X.env := by rfl)
    (hpl : (backTo pos (starEach [b] X.env)).any (·.1) = false := by rfl) : PIr X (.Tuple elts kk tpos) (.Call (.Name "zip" p) [a, b] [] pos) (zpLTOf f1 f2) :=
  pi_imp (pi_zipM hg hm (pa_cons ha (pa_cons hb pa_nil hs2) hs) hs hpl) fun σ H R ⟨B, Hf, env, ds, S, z, k⟩ => by
    obtain ⟨ds, z1, z2⟩ := Option.bind_eq_some_iff.mp z
    obtain ⟨es, z3, rfl⟩ := Option.map_eq_some_iff.mp z2
    exact ⟨B, Hf, env, _, S, lsOf_some z1, fun v Hf1 H1 S1 s1 g1 ⟨q, xs, e, hq, r⟩ => ⟨B, Hf1, env, _, S1, tsOf_some z3, fun v2 Hf2 H2 S2 s2 g2 ⟨q2, ys, e2, hq2, r2⟩ => by
      subst e e2
      have h1 := Sub.lst (.of g2.same) hq
      exact ⟨q, q2, xs, ys, rfl, S2.sub.lst h1, S2.sub.tup hq2, k _ Hf2 H2 S2 (s1.trans s2) (g1.trans s1 g2) (wk_zipM h1 (RpA.mono g2.same _ _ r) hq2 r2)⟩⟩⟩
end Q7

-- part Qp3
set_option Elab.async false
set_option linter.all false
set_option maxRecDepth 100000
/-! Qp3: a zip that is asked by another iterator: its pair may still be out. -/
namespace Q7
open PySem PySem.Spec PyProof.Rows L2

/-- a zip, whatever it knows of the pair that it gave out -/
abbrev ZF (h : Heap) (z P O : Addr) (f0 : Value) (b : Bool) : Prop := h.get? z = some { cls := .type "zip", dict := none, data := .fields #[f0, .bool b, .bool false, .ref P, .ref O], slots := #[] }
section
variable {prog : Program} {w : World} {A : Around} {E : Value → Shared → Prop} {s : Shared} {z P O i1 i2 l1 l2 : Addr} {k : Nat} {xs ys : Array Value} {x y p q f0 : Value} {b : Bool}
theorem zf_free {Q : Bool → Shared → Prop} (hz : ZF s.heap z P O f0 b) (hf : f0 = .none ∨ ∃ T : Addr, f0 = rawInt T ∧ s.heap.get? T = none) (h : Q true s) : wpAny (model prog w) A (Builtin.SmallTypes.ownedTupleIsFree (.ref z)) Q E s := by
  unfold Builtin.SmallTypes.ownedTupleIsFree
  rcases hf with rfl | ⟨T, rfl, hT⟩
  · exact wpAny_bind (wpAny_field hz rfl (x := .none) rfl (wpAny_pure h))
  · refine wpAny_bind (wpAny_field hz rfl (x := rawInt T) rfl ?_)
    show wpAny _ _ (loadIfAlive ((T : Int).toNat) >>= _) _ _ _
    rw [Int.toNat_natCast]
    have al : wpAny (model prog w) A (loadIfAlive T) (fun o s' => o = none ∧ s' = s) E s := fun _ _ _ => ⟨hT, rfl⟩
    refine wpAny_bind (wpAny_mono al (fun o s' e => ?_) fun _ _ e => e)
    obtain ⟨rfl, rfl⟩ := e
    exact wpAny_pure h
/-- the zip keeps the pair's parts, draws from both -/
theorem zf_item {Q : Value → Shared → Prop} (D : ZipApart z P O i1 i2 l1 l2) (hz : ZF s.heap z P O f0 b) (hf : f0 = .none ∨ ∃ T : Addr, f0 = rawInt T ∧ s.heap.get? T = none) (hP : IsPair s.heap P (.ref i1) (.ref i2)) (hO : IsPair s.heap O p q)
    (a1 : s.heap.IsListIter i1 l1 k) (a2 : s.heap.IsListIter i2 l2 k) (b1 : s.heap.IsList l1 xs) (b2 : s.heap.IsList l2 ys) (hx : xs[k]? = some x) (hy : ys[k]? = some y)
    (hQ : ∀ h', ZF h' z P O (rawInt s.heap.objs.size) false → IsPair h' O x y → h'.IsListIter i1 l1 (k + 1) → h'.IsListIter i2 l2 (k + 1) → IsPair h' s.heap.objs.size x y → h'.objs.size = s.heap.objs.size + 1 → (∀ c o, c ≠ z → c ≠ O → c ≠ i1 → c ≠ i2 → s.heap.get? c = some o → h'.get? c = some o) → Q (.ref s.heap.objs.size) { s with heap := h' }) :
    wpAny (model prog w) A (Builtin.«zip.__next__» ⟨[.ref z], []⟩) (fun fin s' => ∃ v, fin = .done (.ret v) ∧ Q v s') E s := by
  show wpAny _ _ (field (.ref z) 2 >>= _) _ _ _
  refine wpAny_bind (wpAny_field hz rfl (x := .bool false) rfl ?_)
  show wpAny _ _ (field (.ref z) 3 >>= _) _ _ _
  refine wpAny_bind (wpAny_field hz rfl (x := .ref P) rfl ?_)
  refine wpAny_bind (wpAny_seqItems hP rfl ?_)
  show wpAny _ _ (Builtin.SmallTypes.ownedTupleIsFree (.ref z) >>= _) _ _ _
  refine wpAny_bind (zf_free hz hf ?_)
  simp only [if_true]
  refine wpAny_bind (wpAny_rule ?_)
  refine wpAny_bind (wpAny_field hz rfl (x := .ref O) rfl ?_)
  refine wpAny_bind (wpAny_setField_rec hz (by simp) fun u1 n1 m1 => ?_)
  replace n1 : ZF u1 z P O .ellipsis b := n1
  refine wpAny_bind ?_
  simp only [List.zipIdx_cons, List.zipIdx_nil, List.forIn_cons, List.forIn_nil]
  refine wpAny_bind (wpAny_bind (wpAny_onRaise ?_))
  show wpAny _ _ (Builtin.SmallTypes.nextOf (.ref i1) >>= _) _ _ _
  refine wpAny_bind (wpAny_nextOf_list_item (a1.extBut m1.extBut D.i1z) (b1.extBut m1.extBut D.l1z) hx fun u2 c1 m2 => wpAny_pure ?_)
  have o2 : IsPair u2 O p q := m2.extBut _ _ D.TOi1 (m1.extBut _ _ D.TOz hO)
  refine wpAny_bind (wpAny_seqItems o2 rfl (wpAny_bind (wpAny_updateSeq_pair o2 fun u3 o3 m3 => ?_)))
  replace o3 : IsPair u3 O x q := o3
  refine wpAny_bind (wpAny_letGo (wpAny_pure (wpAny_bind (wpAny_bind (wpAny_onRaise ?_)))))
  show wpAny _ _ (Builtin.SmallTypes.nextOf (.ref i2) >>= _) _ _ _
  have c2 : u3.IsListIter i2 l2 k := ((a2.extBut m1.extBut D.i2z).extBut m2.extBut D.i12.symm).extBut m3.extBut D.TOi2.symm
  have e2 : u3.IsList l2 ys := ((b2.extBut m1.extBut D.l2z).extBut m2.extBut D.l2i1).extBut m3.extBut D.l2TO
  refine wpAny_bind (wpAny_nextOf_list_item c2 e2 hy fun u4 c3 m4 => wpAny_pure ?_)
  have o4 : IsPair u4 O x q := m4.extBut _ _ D.TOi2 o3
  refine wpAny_bind (wpAny_seqItems o4 rfl (wpAny_bind (wpAny_updateSeq_pair o4 fun u5 o5 m5 => ?_)))
  replace o5 : IsPair u5 O x y := o5
  refine wpAny_bind (wpAny_letGo (wpAny_pure (wpAny_pure (wpAny_bind (wpAny_seqItems o5 rfl (wpAny_bind (wpAny_newTuple ?_)))))))
  have sz : u5.objs.size = s.heap.objs.size := m5.1.trans (m4.1.trans (m3.1.trans (m2.1.trans m1.1)))
  have n5 : ZF u5 z P O .ellipsis b := m5.extBut _ _ D.TOz.symm (m4.extBut _ _ D.i2z.symm (m3.extBut _ _ D.TOz.symm (m2.extBut _ _ D.i1z.symm n1)))
  have kept : ∀ c o, c ≠ z → c ≠ O → c ≠ i1 → c ≠ i2 → s.heap.get? c = some o → u5.get? c = some o := fun c o cz cO ca cb e => m5.extBut _ _ cO (m4.extBut _ _ cb (m3.extBut _ _ cO (m2.extBut _ _ ca (m1.extBut _ _ cz e))))
  have d1 : u5.IsListIter i1 l1 (k + 1) := ((c1.extBut m3.extBut D.TOi1.symm).extBut m4.extBut D.i12).extBut m5.extBut D.TOi1.symm
  have d2 : u5.IsListIter i2 l2 (k + 1) := c3.extBut m5.extBut D.TOi2.symm
  have zl : z < u5.objs.size := Heap.lt_size n5
  show wpAny _ _ (Builtin.SmallTypes.ownedTupleHandOut (.ref z) (.ref u5.objs.size) >>= _) _ _ _
  refine wpAny_bind ?_
  unfold Builtin.SmallTypes.ownedTupleHandOut
  have n6 : ZF (u5.push { cls := .type "tuple", data := .seq #[x, y] }) z P O .ellipsis b := Heap.get?_push_of_some _ n5
  refine wpAny_bind (wpAny_setField_rec n6 (by simp) fun u7 n7 m7 => ?_)
  replace n7 : ZF u7 z P O (rawInt u5.objs.size) b := n7
  refine wpAny_setField_rec n7 (by simp) fun u8 n8 m8 => ?_
  replace n8 : ZF u8 z P O (rawInt u5.objs.size) false := n8
  have up : ∀ c o, c ≠ z → u5.get? c = some o → u8.get? c = some o := fun c o cz e => m8.extBut _ _ cz (m7.extBut _ _ cz (Heap.get?_push_of_some _ e))
  have t8 : IsPair u8 u5.objs.size x y := m8.extBut _ _ (Nat.ne_of_gt zl) (m7.extBut _ _ (Nat.ne_of_gt zl) (Heap.get?_push_size _ rfl))
  have s8 : u8.objs.size = u5.objs.size + 1 := m8.1.trans (m7.1.trans (Heap.size_push ..))
  rw [sz] at n8 t8 s8
  refine wpAny_pure ⟨_, rfl, ?_⟩
  show Q (.ref u5.objs.size) _
  rw [sz]
  exact hQ u8 n8 (up _ _ D.TOz o5) (d1.at fun o e => up _ o D.i1z e) (d2.at fun o e => up _ o D.i2z e) t8 s8 fun c o cz cO ca cb e => up c o cz (kept c o cz cO ca cb e)
theorem zf_end {Q : Fin → Shared → Prop} (hh : A.handled = none) (D : ZipApart z P O i1 i2 l1 l2) (hz : ZF s.heap z P O f0 b) (hf : f0 = .none ∨ ∃ T : Addr, f0 = rawInt T ∧ s.heap.get? T = none) (hP : IsPair s.heap P (.ref i1) (.ref i2)) (hO : IsPair s.heap O p q)
    (a1 : s.heap.IsListIter i1 l1 k) (a2 : s.heap.IsListIter i2 l2 k) (b1 : s.heap.IsList l1 xs) (b2 : s.heap.IsList l2 ys) (hx : xs[k]? = none ∨ ys[k]? = none)
    (hE : ∀ h' e, (∀ c o, c ≠ z → c ≠ O → c ≠ i1 → c ≠ i2 → s.heap.get? c = some o → h'.get? c = some o) → (∃ o, h'.get? e = some o ∧ o.cls = .type "StopIteration") → E (.ref e) { s with heap := h' }) :
    wpAny (model prog w) A (Builtin.«zip.__next__» ⟨[.ref z], []⟩) Q E s := by
  show wpAny _ _ (field (.ref z) 2 >>= _) _ _ _
  refine wpAny_bind (wpAny_field hz rfl (x := .bool false) rfl ?_)
  show wpAny _ _ (field (.ref z) 3 >>= _) _ _ _
  refine wpAny_bind (wpAny_field hz rfl (x := .ref P) rfl ?_)
  refine wpAny_bind (wpAny_seqItems hP rfl ?_)
  show wpAny _ _ (Builtin.SmallTypes.ownedTupleIsFree (.ref z) >>= _) _ _ _
  refine wpAny_bind (zf_free hz hf ?_)
  simp only [if_true]
  refine wpAny_bind (wpAny_rule ?_)
  refine wpAny_bind (wpAny_field hz rfl (x := .ref O) rfl ?_)
  refine wpAny_bind (wpAny_setField_rec hz (by simp) fun u1 n1 m1 => ?_)
  replace n1 : ZF u1 z P O .ellipsis b := n1
  refine wpAny_bind ?_
  simp only [List.zipIdx_cons, List.zipIdx_nil, List.forIn_cons, List.forIn_nil]
  refine wpAny_bind (wpAny_bind (wpAny_onRaise ?_))
  show wpAny _ _ (Builtin.SmallTypes.nextOf (.ref i1) >>= _) _ _ _
  have fin : ∀ (u : Heap) (n : ZF u z P O .ellipsis b) (e : Addr), (∀ c o, c ≠ z → c ≠ O → c ≠ i1 → c ≠ i2 → s.heap.get? c = some o → u.get? c = some o) → (∃ o, u.get? e = some o ∧ o.cls = .type "StopIteration") →
      wpAny (model prog w) A (setField (.ref z) 0 .none) (fun _ s'' => E (.ref e) s'') E { s with heap := u } := fun u n e kept he => by
    obtain ⟨oe, g1, g2⟩ := he
    have ne : e ≠ z := fun eq => by
      subst eq
      rw [n] at g1
      cases g1
      exact absurd (Value.type.inj g2) (by decide)
    exact wpAny_setField_rec n (by simp) fun u' _ m => hE u' e (fun c o cz cO ca cb w => m.extBut _ _ cz (kept c o cz cO ca cb w)) ⟨oe, m.extBut _ _ ne g1, g2⟩
  cases gx : xs[k]? with
  | none => exact wpAny_bind (wpAny_nextOf_list_end hh (a1.extBut m1.extBut D.i1z) (b1.extBut m1.extBut D.l1z) gx fun u2 e m2 he => fin u2 (m2 _ _ D.i1z.symm n1) e (fun c o cz _ ca _ w => m2 _ _ ca (m1.extBut _ _ cz w)) he)
  | some x =>
    have gy : ys[k]? = none := hx.resolve_left fun w => by
      rw [gx] at w
      cases w
    refine wpAny_bind (wpAny_nextOf_list_item (a1.extBut m1.extBut D.i1z) (b1.extBut m1.extBut D.l1z) gx fun u2 c1 m2 => wpAny_pure ?_)
    have o2 : IsPair u2 O p q := m2.extBut _ _ D.TOi1 (m1.extBut _ _ D.TOz hO)
    refine wpAny_bind (wpAny_seqItems o2 rfl (wpAny_bind (wpAny_updateSeq_pair o2 fun u3 o3 m3 => ?_)))
    refine wpAny_bind (wpAny_letGo (wpAny_pure (wpAny_bind (wpAny_bind (wpAny_onRaise ?_)))))
    show wpAny _ _ (Builtin.SmallTypes.nextOf (.ref i2) >>= _) _ _ _
    have c2 : u3.IsListIter i2 l2 k := ((a2.extBut m1.extBut D.i2z).extBut m2.extBut D.i12.symm).extBut m3.extBut D.TOi2.symm
    have e2 : u3.IsList l2 ys := ((b2.extBut m1.extBut D.l2z).extBut m2.extBut D.l2i1).extBut m3.extBut D.l2TO
    exact wpAny_bind (wpAny_nextOf_list_end hh c2 e2 gy fun u4 e m4 he => fin u4 (m4 _ _ D.i2z.symm (m3.extBut _ _ D.TOz.symm (m2.extBut _ _ D.i1z.symm n1))) e (fun c o cz cO ca cb w => m4 _ _ cb (m3.extBut _ _ cO (m2.extBut _ _ ca (m1.extBut _ _ cz w)))) he)
end
end Q7

-- part Qp4
set_option Elab.async false
set_option linter.all false
set_option maxRecDepth 100000
/-! Qp4: enumerate over a zip of two lists. -/
namespace Q7
open PySem PySem.Spec PyProof.Rows L2

/-- the zip at z as it stands, k pairs given out -/
def ZS (h : Heap) (z P O i1 i2 l1 l2 : Addr) (k : Nat) : Prop := (∃ f0 b, ZF h z P O f0 b ∧ (f0 = .none ∨ ∃ T : Addr, f0 = rawInt T)) ∧ IsPair h P (.ref i1) (.ref i2) ∧ (∃ p q, IsPair h O p q) ∧ h.IsListIter i1 l1 k ∧ h.IsListIter i2 l2 k
theorem ZS.at {h h' : Heap} {z P O i1 i2 l1 l2 : Addr} {k : Nat} (c : ZS h z P O i1 i2 l1 l2 k) (kp : ∀ a ∈ [z, P, O, i1, i2], ∀ o, h.get? a = some o → h'.get? a = some o) : ZS h' z P O i1 i2 l1 l2 k := by
  obtain ⟨⟨f0, b, e, r⟩, e2, ⟨p, q, e3⟩, e4, e5⟩ := c
  exact ⟨⟨f0, b, kp z (by simp) _ e, r⟩, kp P (by simp) _ e2, ⟨p, q, kp O (by simp) _ e3⟩, e4.at fun o w => kp i1 (by simp) o w, e5.at fun o w => kp i2 (by simp) o w⟩
section
variable {prog : Program} {w : World} {A : Around} {E : Value → Shared → Prop} {s : Shared} {e z P O i1 i2 l1 l2 : Addr} {k : Nat} {xs ys : Array Value} {x y old : Value}
theorem zs_item {Q : Value → Shared → Prop} (D : ZipApart z P O i1 i2 l1 l2) (c : ZS s.heap z P O i1 i2 l1 l2 k) (b1 : s.heap.IsList l1 xs) (b2 : s.heap.IsList l2 ys) (hx : xs[k]? = some x) (hy : ys[k]? = some y)
    (hQ : ∀ h', ZS h' z P O i1 i2 l1 l2 (k + 1) → IsPair h' s.heap.objs.size x y → h'.objs.size = s.heap.objs.size + 1 → (∀ c o, c ≠ z → c ≠ O → c ≠ i1 → c ≠ i2 → s.heap.get? c = some o → h'.get? c = some o) → Q (.ref s.heap.objs.size) { s with heap := h' }) :
    wpAny (model prog w) A (Builtin.SmallTypes.nextOf (.ref z)) Q E s := by
  obtain ⟨⟨f0, b, n, r⟩, g2, ⟨p, q, g3⟩, g4, g5⟩ := c
  have hT : s.TypeIs (.ref z) "zip" := ⟨_, n, rfl⟩
  have own : (f0 = .none ∨ ∃ T : Addr, f0 = rawInt T ∧ s.heap.get? T = none) → wpAny (model prog w) A.in1 (Builtin.«zip.__next__» ⟨[.ref z], []⟩) (fun fin s' => ∃ v, fin = .done (.ret v) ∧ Q v s') E s := fun hf =>
    zf_item D n hf g2 g3 g4 g5 b1 b2 hx hy fun h' r1 r2 r3 r4 r5 r6 r7 => hQ h' ⟨⟨_, _, r1, .inr ⟨_, rfl⟩⟩, r7 _ _ D.TIz D.TITO D.TIi1 D.TIi2 g2, ⟨_, _, r2⟩, r3, r4⟩ r5 r6 r7
  have go : wpAny (model prog w) A.in1 (Builtin.«zip.__next__» ⟨[.ref z], []⟩) (fun fin s' => ∃ v, fin = .done (.ret v) ∧ Q v s') E s := by
    rcases r with rfl | ⟨T, rfl⟩
    · exact own (.inl rfl)
    · cases gT : s.heap.get? T with
      | none => exact own (.inr ⟨T, rfl, gT⟩)
      | some oT =>
        exact zip_next_item_held D n gT g2 g4 g5 b1 b2 hx hy fun h' r1 r3 r4 r5 r6 r7 => hQ h' ⟨⟨_, _, r1, .inr ⟨_, rfl⟩⟩, r7 _ _ D.TIz D.TIi1 D.TIi2 g2, ⟨_, _, r7 _ _ D.TOz D.TOi1 D.TOi2 g3⟩, r3, r4⟩ r5 r6 fun c o cz _ ca cb w => r7 c o cz ca cb w
  unfold Builtin.SmallTypes.nextOf
  exact wpAny_bind (wpAny_callSpecial?_slot (name := Str.ofString "__next__") hT F.slot_zip_next (wpAny_call_entry F.slot_zip_next hT F.entry_zip_next (wpAny_mono go (fun fin s' ⟨v, e1, q⟩ => ⟨v, e1, wpAny_pure q⟩) fun _ _ e => e) (F.args_zip_next_1 _)))
theorem zs_end {Q : Value → Shared → Prop} (hh : A.handled = none) (D : ZipApart z P O i1 i2 l1 l2) (c : ZS s.heap z P O i1 i2 l1 l2 k) (b1 : s.heap.IsList l1 xs) (b2 : s.heap.IsList l2 ys) (hx : xs[k]? = none ∨ ys[k]? = none)
    (hE : ∀ h' e, (∀ c o, c ≠ z → c ≠ O → c ≠ i1 → c ≠ i2 → s.heap.get? c = some o → h'.get? c = some o) → (∃ o, h'.get? e = some o ∧ o.cls = .type "StopIteration") → E (.ref e) { s with heap := h' }) :
    wpAny (model prog w) A (Builtin.SmallTypes.nextOf (.ref z)) Q E s := by
  obtain ⟨⟨f0, b, n, r⟩, g2, ⟨p, q, g3⟩, g4, g5⟩ := c
  have hT : s.TypeIs (.ref z) "zip" := ⟨_, n, rfl⟩
  have hh1 : A.in1.handled = none := by simpa using hh
  have go : ∀ {R : PySem.Fin → Shared → Prop}, wpAny (model prog w) A.in1 (Builtin.«zip.__next__» ⟨[.ref z], []⟩) R E s := fun {R} => by
    rcases r with rfl | ⟨T, rfl⟩
    · exact zf_end hh1 D n (.inl rfl) g2 g3 g4 g5 b1 b2 hx hE
    · cases gT : s.heap.get? T with
      | none => exact zf_end hh1 D n (.inr ⟨T, rfl, gT⟩) g2 g3 g4 g5 b1 b2 hx hE
      | some oT => exact zip_next_end_held hh1 D n gT g2 g4 g5 b1 b2 hx fun h' e kp he => hE h' e (fun c o cz _ ca cb w => kp c o cz ca cb w) he
  unfold Builtin.SmallTypes.nextOf
  exact wpAny_bind (wpAny_callSpecial?_slot (name := Str.ofString "__next__") hT F.slot_zip_next (wpAny_call_entry F.slot_zip_next hT F.entry_zip_next go (F.args_zip_next_1 _)))
end
end Q7

-- part Qp5
set_option Elab.async false
set_option linter.all false
set_option maxRecDepth 100000
/-! Qp5: enumerate over a zip of two lists: the turns. -/
namespace Q7
open PySem PySem.Spec PyProof.Rows L2

section
variable {prog : Program} {w : World} {A : Around} {E : Value → Shared → Prop} {s : Shared} {e z P O i1 i2 l1 l2 : Addr} {k : Nat} {xs ys : Array Value} {x y old : Value}
/-- what lies apart from the enumerate -/
structure Far (e z P O i1 i2 : Addr) : Prop where
  z : e ≠ z
  P : e ≠ P
  O : e ≠ O
  i1 : e ≠ i1
  i2 : e ≠ i2
theorem Far.five (F : Far e z P O i1 i2) {a : Addr} (h : a ∈ [z, P, O, i1, i2]) : a ≠ e := mem5 (P := fun a => a ≠ e) h F.z.symm F.P.symm F.O.symm F.i1.symm F.i2.symm
theorem en_item {Q : Option Value → Shared → Prop} (D : ZipApart z P O i1 i2 l1 l2) (Fr0 : Far e z P O i1 i2) (he : IsEnum s.heap e z k old) (c : ZS s.heap z P O i1 i2 l1 l2 k) (b1 : s.heap.IsList l1 xs) (b2 : s.heap.IsList l2 ys) (hx : xs[k]? = some x) (hy : ys[k]? = some y)
    (hQ : ∀ u h' tk, IsPair u s.heap.objs.size x y → u.objs.size = s.heap.objs.size + 1 → (∀ c o, c ≠ z → c ≠ O → c ≠ i1 → c ≠ i2 → s.heap.get? c = some o → u.get? c = some o) →
      (∀ c o, c ≠ e → u.get? c = some o → h'.get? c = some o) → IsEnumOut h' e z ((k : Int) + 1) (.ref s.heap.objs.size) (s.heap.objs.size + 1) → ZS h' z P O i1 i2 l1 l2 (k + 1) →
      IsPair h' (s.heap.objs.size + 1) (.int k tk) (.ref s.heap.objs.size) → Q (some (.ref (s.heap.objs.size + 1))) { s with heap := h', toks := tk + 1 }) :
    wpAny (model prog w) A (pyNext (.ref e)) Q E s := by
  have hTy : s.TypeIs (.ref e) "enumerate" := ⟨_, he, rfl⟩
  unfold pyNext
  refine wpAny_bind (wpAny_attempt (wpAny_callSpecial?_slot (name := Str.ofString "__next__") hTy F.slot_enumerate_next
    (wpAny_call_entry F.slot_enumerate_next hTy F.entry_enumerate_next ?_ (F.args_enumerate_next_1 _))))
  obtain ⟨hp, g, d, tk, os⟩ := s
  show wpAny _ _ (field (.ref e) 2 >>= _) _ _ _
  refine wpAny_bind (wpAny_field he rfl (x := .ref z) rfl ?_)
  refine wpAny_bind (zs_item D c b1 b2 hx hy fun u c1 t1 z1 kp => ?_)
  replace t1 : IsPair u hp.objs.size x y := t1
  replace z1 : u.objs.size = hp.objs.size + 1 := z1
  have el : e < hp.objs.size := Heap.lt_size he
  have e1 : IsEnum u e z k old := kp e _ Fr0.z Fr0.O Fr0.i1 Fr0.i2 he
  show wpAny _ _ (field (.ref e) 3 >>= _) _ _ ⟨u, g, d, tk, os⟩
  refine wpAny_bind (wpAny_field e1 rfl (x := rawInt k) rfl ?_)
  show wpAny _ _ (field (.ref e) 4 >>= _) _ _ ⟨u, g, d, tk, os⟩
  refine wpAny_bind (wpAny_field e1 rfl (x := .none) rfl ?_)
  show wpAny _ _ (mkInt k >>= _) _ _ ⟨u, g, d, tk, os⟩
  refine wpAny_bind (wpAny_mkInt ?_)
  show wpAny _ _ (setField (.ref e) 3 (rawInt ((k : Int) + 1)) >>= _) _ _ ⟨u, g, d, tk + 1, os⟩
  refine wpAny_bind (wpAny_setField_rec e1 (by simp) fun u2 e2 m2 => ?_)
  replace e2 : IsEnum u2 e z ((k : Int) + 1) old := e2
  replace m2 : Heap.SameBut e u u2 := m2
  show wpAny _ _ (setField (.ref e) 4 .none >>= _) _ _ ⟨u2, g, d, tk + 1, os⟩
  refine wpAny_bind (wpAny_setField_rec e2 (by simp) fun u3 e3 m3 => ?_)
  replace e3 : IsEnum u3 e z ((k : Int) + 1) old := e3
  replace m3 : Heap.SameBut e u2 u3 := m3
  show wpAny _ _ (newTuple [.int k tk, .ref hp.objs.size] >>= _) _ _ ⟨u3, g, d, tk + 1, os⟩
  refine wpAny_bind (wpAny_newTuple ?_)
  have z3 : u3.objs.size = hp.objs.size + 1 := m3.1.trans (m2.1.trans z1)
  have k3 : ∀ c o, c ≠ e → u.get? c = some o → (u3.push { cls := .type "tuple", data := .seq #[.int k tk, .ref hp.objs.size] }).get? c = some o := fun c o ce g => Heap.get?_push_of_some _ (m3.extBut _ _ ce (m2.extBut _ _ ce g))
  have e4 : IsEnum (u3.push { cls := .type "tuple", data := .seq #[.int k tk, .ref hp.objs.size] }) e z ((k : Int) + 1) old := Heap.get?_push_of_some _ e3
  have t4 : (u3.push { cls := .type "tuple", data := .seq #[.int k tk, .ref hp.objs.size] }).get? (hp.objs.size + 1) = some { cls := .type "tuple", data := .seq #[.int k tk, .ref hp.objs.size] } := by
    rw [← z3]
    exact Heap.get?_push_size _ rfl
  show wpAny _ _ (Builtin.SmallTypes.ownedTupleIsFree (.ref e) >>= _) _ _ ⟨u3.push { cls := .type "tuple", data := .seq #[.int k tk, .ref hp.objs.size] }, g, d, tk + 1, os⟩
  rw [z3]
  generalize u3.push { cls := .type "tuple", data := .seq #[.int k tk, .ref hp.objs.size] } = u4 at k3 e4 t4
  refine wpAny_bind ?_
  unfold Builtin.SmallTypes.ownedTupleIsFree
  refine wpAny_bind (wpAny_field e4 rfl (x := .none) rfl (wpAny_pure ?_))
  simp only [if_true]
  refine wpAny_bind (wpAny_rule ?_)
  refine wpAny_bind (wpAny_field e4 rfl (x := old) rfl ?_)
  refine wpAny_bind (wpAny_setField_rec e4 (by simp) fun u5 e5 m5 => ?_)
  replace e5 : IsEnum u5 e z ((k : Int) + 1) (.ref hp.objs.size) := e5
  replace m5 : Heap.SameBut e u4 u5 := m5
  show wpAny _ _ (Builtin.SmallTypes.ownedTupleHandOut (.ref e) (.ref (hp.objs.size + 1)) >>= _) _ _ ⟨u5, g, d, tk + 1, os⟩
  refine wpAny_bind ?_
  unfold Builtin.SmallTypes.ownedTupleHandOut
  refine wpAny_bind (wpAny_setField_rec e5 (by simp) fun u6 e6 m6 => ?_)
  replace e6 : IsEnumOut u6 e z ((k : Int) + 1) (.ref hp.objs.size) (hp.objs.size + 1) := e6
  replace m6 : Heap.SameBut e u5 u6 := m6
  refine wpAny_setField_rec e6 (by simp) fun u7 e7 m7 => ?_
  replace e7 : IsEnumOut u7 e z ((k : Int) + 1) (.ref hp.objs.size) (hp.objs.size + 1) := e7
  replace m7 : Heap.SameBut e u6 u7 := m7
  have k7 : ∀ c o, c ≠ e → u.get? c = some o → u7.get? c = some o := fun c o ce g => m7.extBut _ _ ce (m6.extBut _ _ ce (m5.extBut _ _ ce (k3 c o ce g)))
  have ne : hp.objs.size + 1 ≠ e := Nat.ne_of_gt (Nat.lt_succ_of_lt el)
  exact wpAny_bind (wpAny_letGo (wpAny_pure ⟨_, rfl, wpAny_pure (hQ u u7 tk t1 z1 kp k7 e7 (c1.at fun a ha o g => k7 a o (Fr0.five ha) g) (m7.extBut _ _ ne (m6.extBut _ _ ne (m5.extBut _ _ ne t4))))⟩))
theorem en_end {Q : Option Value → Shared → Prop} {i : Int} (hh : A.handled = none) (D : ZipApart z P O i1 i2 l1 l2) (he : IsEnum s.heap e z i old) (c : ZS s.heap z P O i1 i2 l1 l2 k) (b1 : s.heap.IsList l1 xs) (b2 : s.heap.IsList l2 ys) (hx : xs[k]? = none ∨ ys[k]? = none)
    (hQ : ∀ h', (∀ c o, c ≠ z → c ≠ O → c ≠ i1 → c ≠ i2 → s.heap.get? c = some o → h'.get? c = some o) → Q none { s with heap := h' }) : wpAny (model prog w) A (pyNext (.ref e)) Q E s := by
  have hTy : s.TypeIs (.ref e) "enumerate" := ⟨_, he, rfl⟩
  have hh1 : A.in1.handled = none := by simpa using hh
  unfold pyNext
  refine wpAny_bind (wpAny_attempt (wpAny_callSpecial?_slot (name := Str.ofString "__next__") hTy F.slot_enumerate_next
    (wpAny_call_entry F.slot_enumerate_next hTy F.entry_enumerate_next ?_ (F.args_enumerate_next_1 _))))
  show wpAny _ _ (field (.ref e) 2 >>= _) _ _ _
  refine wpAny_bind (wpAny_field he rfl (x := .ref z) rfl ?_)
  refine wpAny_bind (zs_end hh1 D c b1 b2 hx fun h' v kp hv => ?_)
  obtain ⟨o, ho, hc⟩ := hv
  exact wpAny_bind (wpAny_isInstance (T := "StopIteration") (b := true) ⟨o, ho, hc⟩ isSubtype_stop (wpAny_pure (hQ _ kp)))
end
theorem meets_enumZ (z P O : Addr) : Meets (Builtin.«enumerate.__new__» ⟨[.type "enumerate", .ref z], []⟩) (fun _ R s => IsZip s.heap z P O .none ∧ R (.ok (.ret (.ref s.heap.objs.size))) { s with heap := s.heap.push { cls := .type "enumerate", data := .fields #[.none, .bool false, .ref z, rawInt 0, .none, .none] } }) :=
  .of_wp fun prog w A R s h => by
    obtain ⟨hp, g, d, tk, os⟩ := s
    obtain ⟨hz, h⟩ := h
    have hsub := sub_enumerate
    have q : ∀ {A' : Around} {E : Value → Shared → Prop} {Q : Value → Shared → Prop} {tk' : Nat}, Q (.ref z) ⟨hp, g, d, tk', os⟩ → wpAny (model prog w) A' (pyIter (.ref z)) Q E ⟨hp, g, d, tk', os⟩ := fun q => wpAny_pyIter_zip (s := ⟨hp, g, d, _, os⟩) hz q
    wp_walk using AutoSeq1.wpAny_loadPart' hz
    refine wpAny_stack_any fun st => wpAny_pure ?_
    split
    · rename_i c _ _ _ _ _
      cases (c == Value.type "enumerate")
      · wp_walk using AutoSeq1.wpAny_loadPart' hz, q
        exact ⟨_, rfl, h⟩
      · wp_walk using AutoSeq1.wpAny_loadPart' hz, q
        exact ⟨_, rfl, h⟩
    · wp_walk using AutoSeq1.wpAny_loadPart' hz, q
      exact ⟨_, rfl, h⟩
theorem call_enumZ {prog : Program} {w : World} {A : Around} {E : Value → Shared → Prop} {s : Shared} {z P O : Addr} {Q : Value → Shared → Prop} (hz : IsZip s.heap z P O .none)
    (h : ∀ h', IsEnum h' s.heap.objs.size z 0 .none → (∀ c o, s.heap.get? c = some o → h'.get? c = some o) → Q (.ref s.heap.objs.size) { s with heap := h' }) : wpAny (model prog w) A (call (.type "enumerate") [.ref z]) Q E s := by
  refine callType_new F.called_enumerate (by decide) (F.typeCall_enumerate_1 _) (F.newCall_enumerate_1 _) (fun obj => F.args_object_init_2 obj _) F.entry_enumerate_new (meets_enumZ z P O) ⟨hz, ?_⟩
  have he : IsEnum (s.heap.push { cls := .type "enumerate", data := .fields #[.none, .bool false, .ref z, rawInt 0, .none, .none] }) s.heap.objs.size z 0 .none := Heap.get?_push_size _ rfl
  exact ⟨⟨_, he, rfl⟩, h _ he fun c o g => Heap.get?_push_of_some _ g⟩
end Q7

-- part Qp6
set_option Elab.async false
set_option linter.all false
set_option maxRecDepth 100000
/-! Qp6: for i, (x, y) in enumerate(zip(xs, ys)). -/
namespace Q7
open PySem PySem.Spec PyProof.Rows L2

theorem mem6 {R : Addr → Prop} {a b c d e f x : Addr} (h : x ∈ [a, b, c, d, e, f]) (ha : R a) (hb : R b) (hc : R c) (hd : R d) (he : R e) (hf : R f) : R x := by
  rcases List.mem_cons.mp h with q | q
  · rw [q]; exact ha
  · exact mem5 q hb hc hd he hf
/-- numbered pairs of two lists -/
def ItEZ (K : PySem.W.Frag) (a b : Addr) : It where
  go := fun i H => ∃ (xs ys : List V) (x y : V), SqL K H a xs ∧ SqL K H b ys ∧ xs[i]? = some x ∧ ys[i]? = some y
  yld := fun i H v H' => ∃ T U x y, v = .ref U ∧ H T = none ∧ H U = none ∧ T ≠ U ∧ H' = upd (upd H T (.tup [x, y])) U (.tup [.int (i : Nat), .ref T]) ∧ (∀ xs, SqL K H a xs → xs[i]? = some x) ∧ ∀ ys, SqL K H b ys → ys[i]? = some y
  stop := fun i H => ∃ xs ys : List V, SqL K H a xs ∧ SqL K H b ys ∧ (xs.length ≤ i ∨ ys.length ≤ i)
def tnEZ (a b e z P O i1 i2 : Addr) (i : Nat) (h : Heap) : Prop := (∃ old, IsEnum h e z ((i : Nat) : Int) old) ∧ ZS h z P O i1 i2 a b i
theorem turnEZ {Pr : Program} {w : World} {K : PySem.W.Frag} {elts : List Expr} {kk : Nat} {tpos : Pos} {a b e z P O i1 i2 : Addr} (D : ZipApart z P O i1 i2 a b) (G : Far e z P O i1 i2) : Turn Pr w K (.Tuple elts kk tpos) (ItEZ K a b) [e, z, P, O, i1, i2] e (tnEZ a b e z P O i1 i2) where
  mem := List.mem_cons_self
  obj := fun i h ⟨⟨old, c0⟩, ⟨⟨f0, bb, c1, _⟩, c2, ⟨p, q, c3⟩, ⟨o1, c4, _, d1⟩, ⟨o2, c5, _, d2⟩⟩⟩ c hc => mem6 (R := fun c => ∃ o, h.get? c = some o ∧ ∀ v, o.data ≠ .cell v) hc ⟨_, c0, fun v q => nomatch q⟩ ⟨_, c1, fun v q => nomatch q⟩ ⟨_, c2, fun v q => nomatch q⟩ ⟨_, c3, fun v q => nomatch q⟩ ⟨o1, c4, fun v q => by rw [d1] at q; cases q⟩ ⟨o2, c5, fun v q => by rw [d2] at q; cases q⟩
  keep := fun i h h' ⟨⟨old, c0⟩, c1⟩ kp => ⟨⟨old, kp e List.mem_cons_self _ c0⟩, c1.at fun c hc => kp c (List.mem_cons_of_mem _ hc)⟩
  item := by
    intro X hP hw hK hc i pins s σ H E I hf ⟨⟨old, c0⟩, c1⟩ ⟨xs, ys, x, y, qx, qy, hx, hy⟩
    subst hP hw hK
    obtain ⟨its, rv, p, _⟩ := I.list qx
    obtain ⟨its2, rv2, p2, _⟩ := I.list qy
    obtain ⟨u1, hu, ru⟩ := rv.get hx
    obtain ⟨u2, hu2, ru2⟩ := rv2.get hy
    have lt6 : ∀ c ∈ [e, z, P, O, i1, i2], c < s.heap.objs.size := by
      obtain ⟨⟨f0, bb, g1, _⟩, g2, ⟨p, q, g3⟩, ⟨o1, g4, _⟩, ⟨o2, g5, _⟩⟩ := c1
      exact fun c hc => mem6 (R := fun c => c < s.heap.objs.size) hc (Heap.lt_size c0) (Heap.lt_size g1) (Heap.lt_size g2) (Heap.lt_size g3) (Heap.lt_size g4) (Heap.lt_size g5)
    have el := lt6 e List.mem_cons_self
    refine en_item D G c0 c1 p.isList p2.isList (x := u1) (y := u2) (by simpa using hu) (by simpa using hu2) fun u h' tk t1 z1 kp1 kp2 eo c2 t2 => ?_
    refine ⟨_, rfl, wpAny_letOwnedTupleGo_enum (s := { s with heap := h', toks := tk + 1 }) eo fun h2 he2 sb => ?_⟩
    have n1 : H s.heap.objs.size = none := I.hok.fresh (Nat.le_refl _)
    have n2 : H (s.heap.objs.size + 1) = none := I.hok.fresh (Nat.le_succ _)
    have hf5 : ∀ c ∈ [z, P, O, i1, i2], FpOk X pins H c := fun c hc => hf c (List.mem_cons_of_mem _ hc)
    have I1 : Inv X pins σ (upd H s.heap.objs.size (.tup [x, y])) { s with heap := u, toks := s.toks } :=
      I.turnedNew (ch := [z, P, O, i1, i2]) (fun c o hb q => by
        obtain ⟨m1, m2, m3, m4, m5⟩ := not5 hb
        exact kp1 c o m1 m3 m4 m5 q) hf5 (Nat.le_refl _) ⟨by show 2 ≤ sizeLine; decide, [u1, u2], .cons ru (.cons ru2 .nil), ⟨_, t1, rfl, _, rfl⟩⟩
    have fe : FpOk X pins (upd H s.heap.objs.size (.tup [x, y])) e := by
      obtain ⟨q1, q2⟩ := hf e List.mem_cons_self
      exact ⟨by rw [upd_ne (Nat.ne_of_lt el)]; exact q1, q2⟩
    have ne1 : s.heap.objs.size + 1 ≠ e := Nat.ne_of_gt (Nat.lt_succ_of_lt el)
    have ne0 : s.heap.objs.size ≠ e := Nat.ne_of_gt el
    have t3 : h2.get? (s.heap.objs.size + 1) = some { cls := .type "tuple", data := .seq #[.int i tk, .ref s.heap.objs.size] } := (sb.2 _ ne1).trans t2
    have I2 : Inv X pins σ (upd (upd H s.heap.objs.size (.tup [x, y])) (s.heap.objs.size + 1) (.tup [.int (i : Nat), .ref s.heap.objs.size])) { s with heap := h2, toks := tk + 1 } :=
      I1.turnedNew (t' := tk + 1) (ch := [e]) (fun c o hb q => by
        have ce : c ≠ e := fun w => hb (w ▸ List.mem_cons_self)
        exact (sb.2 c ce).trans (kp2 c o ce q)) (fun c hc => by rw [List.mem_singleton.mp hc]; exact fe) (by show u.objs.size ≤ _; rw [z1]; exact Nat.le_refl _) ⟨by show 2 ≤ sizeLine; decide, [.int i tk, .ref s.heap.objs.size], .cons ⟨_, rfl⟩ (.cons rfl .nil), ⟨_, t3, rfl, _, rfl⟩⟩
    refine ⟨.ref (s.heap.objs.size + 1), _, I2, rfl, ⟨s.heap.objs.size, _, x, y, rfl, n1, n2, Nat.ne_of_lt (Nat.lt_succ_self _), rfl, fun l hl => by rw [I.list_inj hl qx]; exact hx, fun l hl => by rw [I.list_inj hl qy]; exact hy⟩, ⟨⟨.ref s.heap.objs.size, ?_⟩, c2.at fun c hc o g => (sb.2 c (G.five hc)).trans g⟩, fun c hcm => ?_⟩
    · have e1 : ((i + 1 : Nat) : Int) = (i : Int) + 1 := rfl
      rw [e1]
      exact he2
    · have hlt := lt6 c hcm
      rw [upd_ne (Nat.ne_of_lt (Nat.lt_succ_of_lt hlt)), upd_ne (Nat.ne_of_lt hlt)]
      exact (hf c hcm).1
  done := by
    intro X hP hw hK hc i pins s σ H E I hf ⟨⟨old, c0⟩, c1⟩ ⟨xs, ys, qx, qy, hend⟩
    subst hP hw hK
    obtain ⟨its, rv, p, _⟩ := I.list qx
    obtain ⟨its2, rv2, p2, _⟩ := I.list qy
    have l1 := rv.length
    have l2 := rv2.length
    have he : its.toArray[i]? = none ∨ its2.toArray[i]? = none := hend.imp (fun q => by rw [List.getElem?_toArray, List.getElem?_eq_none (by omega)]) fun q => by rw [List.getElem?_toArray, List.getElem?_eq_none (by omega)]
    exact en_end (I.ok.hd hc) D c0 c1 p.isList p2.isList he fun h' kp => ⟨rfl, I.turnedL (t' := s.toks) (ch := [z, P, O, i1, i2]) (fun c o hb q => by
      obtain ⟨m1, m2, m3, m4, m5⟩ := not5 hb
      exact kp c o m1 m3 m4 m5 q) fun c hc => hf c (List.mem_cons_of_mem _ hc)⟩
  self := fun A i s Q E ⟨⟨_, c0⟩, _⟩ h => wpAny_pyIter_enum c0 h
def iEZ (K : PySem.W.Frag) (ta : TA) : TI := fun σ H R => ta σ H fun vs H1 => ∃ a b xs ys, vs = [.ref a, .ref b] ∧ SqL K H1 a xs ∧ SqL K H1 b ys ∧ R (ItEZ K a b) H1
theorem pi_enz {X : Cx} {e e2 : Expr} {ta : TA} {p p2 pos pos2 tpos : Pos} {elts : List Expr} {kk : Nat} (hgE : Gl X "enumerate") (hmE : X.mg "enumerate" = none) (hg : Gl X "zip") (hm : X.mg "zip" = none) (ha : PA X [e, e2] ta)
    (hs : starEach [e, e2] X.env = (false, eval e X.env) :: starEach [e2] X.env := by rfl) (hpl : (backTo pos (starEach [e2] X.env)).any (·.1) = false := by rfl)
    (hs1 : starEach [.Call (.Name "zip" p) [e, e2] [] pos] X.env = (false, eval (.Call (.Name "zip" p) [e, e2] [] pos) X.env) :: starEach [] X.env := by rfl) :
    PI X (.Tuple elts kk tpos) (.Call (.Name "enumerate" p2) [.Call (.Name "zip" p) [e, e2] [] pos] [] pos2) (iEZ X.K ta) := by
  refine ⟨fun pins s σ H R I h => ?_⟩
  refine Call_ (ld_blt I hgE hmE boot_enumerate (PyProof.Rows.callWith_type1 (PyProof.Rows.args_cons ?_ hs1) hs1 rfl))
  refine Call_ (ld_blt I hg hm PyProof.Rows.boot_zip (PyProof.Rows.callWith_type1 (thn (ha.run pos pins s σ H _ I h) fun us s1 ⟨vs, H1, I1, r1, a, b, xs, ys, ex, qx, qy, q⟩ => ?_) hs hpl))
  subst ex
  cases r1 with
  | cons r rr =>
    cases rr with
    | cons r' rr =>
      cases rr
      cases r
      cases r'
      obtain ⟨its, rv, p1, _⟩ := I1.list qx
      obtain ⟨its2, rv2, p2', _⟩ := I1.list qy
      refine call_zip_2 p1.isList p2'.isList fun h' hz hTI hTO g1 g2 hsz hk => PyProof.Rows.args_nil ?_
      refine call_enumZ hz fun h2 he hk2 => wpAny_pyIter_enum he ?_
      have I2 : Inv X pins σ H1 { s1 with heap := h2 } := I1.kept (t' := s1.toks) fun c o g => hk2 c o (hk c o g)
      have en : h'.objs.size = s1.heap.objs.size + 5 := hsz
      refine ⟨h'.objs.size, [h'.objs.size, s1.heap.objs.size + 4, s1.heap.objs.size + 2, s1.heap.objs.size + 3, s1.heap.objs.size, s1.heap.objs.size + 1], _, _, H1, rfl, I2, turnEZ (PySem.W.ktu_apart s1.heap.objs.size a b p1.lt p2'.lt) ?_, ⟨⟨.none, he⟩, ⟨_, _, hk2 _ _ hz, .inl rfl⟩, hk2 _ _ hTI, ⟨_, _, hk2 _ _ hTO⟩, g1.at fun o g => hk2 _ o g, g2.at fun o g => hk2 _ o g⟩, fun c hcm => ?_, q⟩
      · rw [en]
        exact ⟨Nat.ne_of_gt (Nat.lt_succ_self _), Nat.ne_of_gt (Nat.add_lt_add_left (by decide) _), Nat.ne_of_gt (Nat.add_lt_add_left (by decide) _), Nat.ne_of_gt (Nat.lt_add_of_pos_right (by decide)), Nat.ne_of_gt (Nat.add_lt_add_left (by decide) _)⟩
      · have hle : s1.heap.objs.size ≤ c := mem6 (R := fun c => s1.heap.objs.size ≤ c) hcm (by rw [en]; exact Nat.le_add_right _ _) (Nat.le_add_right _ _) (Nat.le_add_right _ _) (Nat.le_add_right _ _) (Nat.le_refl _) (Nat.le_add_right _ _)
        exact I1.fpOk hle (I1.hok.fresh hle)
theorem wk_enz {K : PySem.W.Frag} {B Hf : Hp} {q q2 : Addr} {xs ys : List V} {ds es : List PyData} (h : SqL K Hf q xs) (r : RpA K Hf ds xs) (h2 : SqL K Hf q2 ys) (r2 : RpA K Hf es ys) : Wk K B Hf (ItEZ K q q2) (enD 0 (zipD ds es)) where
  go := fun i H Hf2 hi s sb _ => by
    rw [enD_len, zipD_len] at hi
    obtain ⟨x, e, _⟩ := r.get (List.getElem?_eq_getElem (show i < ds.length by omega))
    obtain ⟨y, e2, _⟩ := r2.get (List.getElem?_eq_getElem (show i < es.length by omega))
    exact ⟨xs, ys, x, y, sb.lst (Sub.lst (.of s) h), sb.lst (Sub.lst (.of s) h2), e, e2⟩
  stop := fun H Hf2 s sb _ => ⟨xs, ys, sb.lst (Sub.lst (.of s) h), sb.lst (Sub.lst (.of s) h2), by
    rw [enD_len, zipD_len, r.length, r2.length]
    omega⟩
  yld := fun i H Hf2 d x H' hd s sb _ ⟨T, U, x1, y1, e, hT, hU, ne, eH, f, f2⟩ => by
    subst e eH
    obtain ⟨d0, hd0, rfl⟩ := enD_get 0 (zipD ds es) i d hd
    obtain ⟨d1, d2, e1, e2, rfl⟩ := zipD_get ds es i d0 hd0
    obtain ⟨x2, e3, r3⟩ := r.get e1
    obtain ⟨y2, e4, r4⟩ := r2.get e2
    have e5 := f xs (sb.lst (Sub.lst (.of s) h))
    have e6 := f2 ys (sb.lst (Sub.lst (.of s) h2))
    rw [e3] at e5
    rw [e4] at e6
    cases e5
    cases e6
    obtain ⟨sm, g, sb2, rp⟩ := new_pair sb hT (Rp.mono s _ _ r3) (Rp.mono s _ _ r4)
    have hU2 : upd H T (.tup [x1, y1]) U = none := by rw [upd_ne ne.symm]; exact hU
    rw [Nat.zero_add]
    obtain ⟨sm3, g3, sb3, rp3⟩ := new_pair sb2 hU2 (d1 := .int (i : Nat)) (x := .int (i : Nat)) rfl rp
    exact ⟨_, sm.trans sm3, g.trans sm g3, sb3, rp3⟩
theorem i_enz {X : Cx} {a b : Expr} {f1 f2 : Nv → Option PyData} {p p2 tpos pos pos2 : Pos} {elts : List Expr} {kk : Nat} (hgE : Gl X "enumerate") (hmE : X.mg "enumerate" = none) (hg : Gl X "zip") (hm : X.mg "zip" = none) (ha : PF X a f1) (hb : PF X b f2) (hs : starEach [a, b] X.env = (false, eval a X.env) :: starEach [b] X.env := by rfl) (hs2 : starEach [b] X.env = (false, eval b X.env) :: starEach [] X.env := by rfl)
    (hpl : (backTo pos (starEach [b] X.env)).any (·.1) = false := by rfl) (hs1 : starEach [.Call (.Name "zip" p) [a, b] [] pos] X.env = (false, eval (.Call (.Name "zip" p) [a, b] [] pos) X.env) :: starEach [] X.env := by rfl) :
    PIr X (.Tuple elts kk tpos) (.Call (.Name "enumerate" p2) [.Call (.Name "zip" p) [a, b] [] pos] [] pos2) (ezOf f1 f2) :=
  pi_imp (pi_enz hgE hmE hg hm (pa_cons ha (pa_cons hb pa_nil hs2) hs) hs hpl hs1) fun σ H R ⟨B, Hf, env, ds, S, z, k⟩ => by
    obtain ⟨ps, z0, rfl⟩ := Option.map_eq_some_iff.mp z
    obtain ⟨ds, z1, z2⟩ := Option.bind_eq_some_iff.mp z0
    obtain ⟨es, z3, rfl⟩ := Option.map_eq_some_iff.mp z2
    exact ⟨B, Hf, env, _, S, lsOf_some z1, fun v Hf1 H1 S1 s1 g1 ⟨q, xs, e, hq, r⟩ => ⟨B, Hf1, env, _, S1, lsOf_some z3, fun v2 Hf2 H2 S2 s2 g2 ⟨q2, ys, e2, hq2, r2⟩ => by
      subst e e2
      have h1 := Sub.lst (.of g2.same) hq
      exact ⟨q, q2, xs, ys, rfl, S2.sub.lst h1, S2.sub.lst hq2, k _ Hf2 H2 S2 (s1.trans s2) (g1.trans s1 g2) (wk_enz h1 (RpA.mono g2.same _ _ r) hq2 r2)⟩⟩⟩
end Q7

-- part Qp7
set_option Elab.async false
set_option linter.all false
set_option maxRecDepth 100000
set_option maxHeartbeats 4000000
/-! Qp7: sorted(set(xs)), xs a list of whole numbers. -/
namespace Q7
open PySem PySem.Spec PyProof.Rows L2

abbrev eSet (w : World) : Obj := { cls := .type "set", dict := none, data := .set #[] 0 (.fresh 0 0 (!w.params.followText "set-order")) }
section
variable {P : Program} {w : World} {A : Around} {E : Value → Shared → Prop} {s : Shared}
theorem set_of_list {l : Addr} {its : Array Value} (ns : List Int) {Q : Value → Shared → Prop} (hh : A.handled = none) (hl : s.heap.IsList l its) (hi : IntsAre its.toList ns) (hb : ns.length + 1 < scanBound)
    (h : ∀ (h' : Heap) (tk c : Nat), SetR w h' s.heap.objs.size (fun j => decide (j ∈ ns)) c → c ≤ ns.length → (∀ b o, s.heap.get? b = some o → h'.get? b = some o) → Q (.ref s.heap.objs.size) { s with heap := h', toks := tk }) :
    wpAny (model P w) A (call (.type "set") [.ref l]) Q E s := by
  have en : its.size = ns.length := by
    have q := IntsAre.length hi
    rwa [Array.length_toList] at q
  obtain ⟨c0, tl, mr⟩ := F.called_set.mro
  have f1 := F.called_set.made
  have f2 := F.called_set.sub
  refine wpAny_call (codeAny_of_tree ?_)
  show wpAny _ _ (callAny (.type "set") _) _ _ _
  refine wpAny_pure ⟨Code.quiet_builtin _ (by decide +kernel), codeAny_builtin F.entry_type_call ?_⟩
  rw [Around.under_plain (weight_type_call_type "set" [.ref l] []) rfl]
  have f3 := F.called_set.notType
  have f4 := F.called_set.canCreate
  have f5 := F.typeCall_set_1 (.ref l)
  repeat (any_goals (first | assumption | wp_step))
  refine codeAny_mono (code_set_led1 (.ref l) (E := E) (Q₁ := fun v u => v = .ref s.heap.objs.size ∧ u = { s with heap := s.heap.push (eSet w) }) ⟨rfl, rfl⟩) fun r u hr => ?_
  rcases r with e | fl
  · exact hr
  cases fl with
  | ret v =>
    obtain ⟨rfl, rfl⟩ := hr
    have gS : (s.heap.push (eSet w)).get? s.heap.objs.size = some (eSet w) := Heap.get?_push_size _ rfl
    have gT : Shared.TypeIs { s with heap := s.heap.push (eSet w) } (.ref s.heap.objs.size) "set" := ⟨_, gS, rfl⟩
    have f6 := F.called_set.init.lookup
    have f7 := F.called_set.init.bind (.ref s.heap.objs.size)
    repeat (any_goals (first | assumption | wp_step))
    refine codeAny_mono (codeAny_call_builtin (R := wants (fun r u2 => r = .none ∧ ∃ h' tk c, u2 = { s with heap := h', toks := tk } ∧ SetR w h' s.heap.objs.size (fun j => decide (j ∈ ns)) c ∧ c ≤ ns.length ∧ (∀ b o, s.heap.get? b = some o → h'.get? b = some o)) E) F.called_set.init.plain F.entry_set_init (check_set_init_1 gT ?_)) fun r2 u2 hr2 => ?_
    · obtain ⟨⟨cl, di, da, sl⟩, hol, hcl, nl, hdl⟩ := id hl
      simp only at hcl hdl
      subst hcl hdl
      have hol2 : (s.heap.push (eSet w)).get? l = some { cls := .type "list", dict := di, data := .seq its nl, slots := sl } := Heap.get?_push_of_some _ hol
      have j1 := F.sub_list_set
      have j2 := F.sub_list_frozenset
      have j3 : (Value.type "list" == Value.type "dict") = false := by decide
      have hl2 : (s.heap.push (eSet w)).IsList l its := ⟨_, hol2, rfl, nl, rfl⟩
      unfold Builtin.«set.__init__» noKeywords Builtin.Frozenset.updateFrom
      generalize hIt : pyIter = it
      wp_walk
      subst hIt
      refine wpAny_pyIter_list hl2 (wpAny_bind (wpAny_runValue ?_))
      have ll : l < s.heap.objs.size := Heap.lt_size hol
      have hh3 : A.in1.in1.in1.handled = none := by simp [hh]
      have zz : (s.heap.push (eSet w)).objs.size = s.heap.objs.size + 1 := Heap.size_push ..
      have ne : l ≠ (s.heap.push (eSet w)).objs.size := by
        rw [zz]
        exact Nat.ne_of_lt (Nat.lt_succ_of_lt ll)
      have nf : s.heap.objs.size ∉ [(s.heap.push (eSet w)).objs.size, l] := by
        rw [zz]
        simp only [List.mem_cons, List.not_mem_nil, or_false, not_or]
        exact ⟨Nat.ne_of_lt (Nat.lt_succ_self _), Nat.ne_of_gt ll⟩
      have val : ∀ (i : Nat) (v : Value), its[i]? = some v → ∃ k t, ns[i]? = some k ∧ v = .int k t := fun i v hv => by
        have hi2 : i < ns.length := by
          rw [← en]
          exact (Array.getElem?_eq_some_iff.mp hv).1
        obtain ⟨t, e⟩ := IntsAre.int_at hi i v (by rw [Array.getElem?_toList]; exact hv)
        refine ⟨ns[i], t, List.getElem?_eq_getElem hi2, ?_⟩
        rw [e, List.getD_eq_getElem?_getD, List.getElem?_eq_getElem hi2] <;> rfl
      refine set_update_ints ((Walks.list hh3 _ l ne its).toS) s.heap.objs.size nf ns en hb val (its.size - 0) 0 _ (by omega) (Nat.zero_le _) ⟨⟨_, Heap.get?_push_size _ rfl, rfl, rfl⟩, hl2.push _⟩ ⟨0, Nat.le_refl 0, setR_new_at (Heap.get?_push_of_some _ gS)⟩ ?_
      intro u3 c3 mv le3 hS3
      obtain ⟨h3, g3, d3, t3, o3⟩ := u3
      obtain rfl : g3 = s.gens := mv.gens
      obtain rfl : d3 = s.drawn := mv.drawn
      obtain rfl : o3 = s.os := mv.os
      show wpAny _ _ _ _ _ _
      refine wpAny_pure ?_
      show wpAny _ _ (ret Value.none) _ _ _
      rw [en] at le3
      refine wpAny_pure ⟨rfl, h3, t3, c3, rfl, hS3, le3, fun b o e => mv.heap b o ?_ (Heap.get?_push_of_some _ (Heap.get?_push_of_some _ e))⟩
      have bl : b < s.heap.objs.size := Heap.lt_size e
      simp only [List.mem_cons, List.not_mem_nil, or_false, not_or]
      exact ⟨Nat.ne_of_lt bl, by rw [zz]; exact Nat.ne_of_lt (Nat.lt_succ_of_lt bl)⟩
    · rcases r2 with e | fl2
      · exact hr2
      cases fl2 with
      | ret v2 =>
        obtain ⟨rfl, h', tk, c, rfl, q1, q2, q3⟩ := hr2
        repeat (any_goals (first | assumption | wp_step))
        exact h _ _ _ q1 q2 q3
      | _ => exact hr2.elim
  | _ => exact hr.elim
end
def rSetL (K : PySem.W.Frag) (w : World) : List V → Hp → VK → Prop := fun xs H Q => ∃ (a : Addr) (ns : List Int), xs = [.ref a] ∧ SqL K H a (ns.map V.int) ∧ ns.length + 1 < scanBound ∧ ∀ (p : Addr) (c : Nat), H p = none → c ≤ ns.length → Q (.ref p) (upd H p (SetO w p (fun j => decide (j ∈ ns)) c))
theorem cr_setL {X : Cx} (hc : X.calm = true) : CallR X (.type "set") (rSetL X.K X.w) := by
  intro pins s σ H xs us Q I r h
  obtain ⟨a, ns, rfl, hs, hb, q⟩ := h
  obtain ⟨its, rv, hl, hz⟩ := I.list hs
  rw [Vals.ref1 r]
  exact set_of_list ns (I.ok.hd hc) hl.isList (by simpa using rv.ints) hb fun h' tk c R hc' kp => ⟨.ref _, upd H s.heap.objs.size (SetO X.w s.heap.objs.size (fun j => decide (j ∈ ns)) c), I.laid (t' := tk) kp (Nat.le_refl _) (setO_new R), rfl, q _ c (I.hok.fresh (Nat.le_refl _)) hc'⟩
/-! the list that comes out -/
theorem ddI_mem : ∀ (r : List Int) (k : Int), k ∈ ddI r ↔ k ∈ r
  | [], k => by simp [ddI]
  | i :: r, k => by
    have ih := ddI_mem r k
    have e : ddI (i :: r) = match ddI r with
      | [] => [i]
      | j :: t => if decide (i = j) then j :: t else i :: j :: t := rfl
    rw [e]
    cases h : ddI r with
    | nil =>
      rw [h] at ih
      simp only [List.mem_cons, List.not_mem_nil, or_false] at ih ⊢
      constructor
      · exact fun q => .inl q
      · exact fun q => q.elim id fun q => (ih.mpr q).elim
    | cons j t =>
      rw [h] at ih
      simp only
      split
      · rename_i q
        have q := of_decide_eq_true q
        subst q
        rw [ih, List.mem_cons]
        constructor
        · exact .inr
        · exact fun w => w.elim (fun w => ih.mp (w ▸ List.mem_cons_self)) id
      · rw [List.mem_cons, ih, List.mem_cons]
theorem ddI_up : ∀ (r : List Int), r.Pairwise (· ≤ ·) → (ddI r).Pairwise (· < ·)
  | [], _ => .nil
  | i :: r, h => by
    obtain ⟨h1, h2⟩ := List.pairwise_cons.mp h
    have ih := ddI_up r h2
    have e : ddI (i :: r) = match ddI r with
      | [] => [i]
      | j :: t => if decide (i = j) then j :: t else i :: j :: t := rfl
    rw [e]
    cases g : ddI r with
    | nil => exact List.pairwise_cons.mpr ⟨fun _ w => (by cases w), .nil⟩
    | cons j t =>
      rw [g] at ih
      simp only
      split
      · exact ih
      · rename_i q
        have q : ¬ i = j := fun w => q (decide_eq_true w)
        refine List.pairwise_cons.mpr ⟨fun y hy => ?_, ih⟩
        have hy2 : y ∈ r := (ddI_mem r y).mp (g ▸ hy)
        have hj2 : j ∈ r := (ddI_mem r j).mp (g ▸ List.mem_cons_self)
        have le1 := h1 y hy2
        have le2 := h1 j hj2
        rcases List.mem_cons.mp hy with rfl | hy
        · omega
        · have := (List.pairwise_cons.mp ih).1 y hy
          omega
theorem up_uniq {a b : List Int} (ha : a.Pairwise (· < ·)) (hb : b.Pairwise (· < ·)) (h : ∀ k, k ∈ a ↔ k ∈ b) : a = b := by
  have na : a.Nodup := ha.imp fun q => Int.ne_of_lt q
  have nb : b.Nodup := hb.imp fun q => Int.ne_of_lt q
  exact List.Perm.eq_of_pairwise (le := fun x y : Int => x < y) (fun x y _ _ h1 h2 => absurd (Int.lt_trans h1 h2) (Int.lt_irrefl _)) ha hb ((List.perm_ext_iff_of_nodup na nb).mpr h)
section
variable {X : Cx} {f : Nv → Option PyData} {a : Expr} {p p2 pos pos2 : Pos}
theorem c_sortS (hc : X.calm = true) (hg : Gl X "sorted") (hm : X.mg "sorted" = none) (hg2 : Gl X "set") (hm2 : X.mg "set" = none) (ha : PQ X a f) (hs : starEach [a] X.env = (false, eval a X.env) :: starEach [] X.env := by rfl) (hpl : (backTo pos2 (starEach [] X.env)).any (·.1) = false := by rfl)
    (hs1 : starEach [.Call (.Name "set" p2) [a] [] pos2] X.env = (false, eval (.Call (.Name "set" p2) [a] [] pos2) X.env) :: starEach [] X.env := by rfl) (hpl1 : (backTo pos (starEach [] X.env)).any (·.1) = false := by rfl) :
    PO' X (.Call (.Name "sorted" p) [.Call (.Name "set" p2) [a] [] pos2] [] pos) (u1 f gSortS) :=
  Le.pe (t := tCB (rSortedSet X.w) (tCons (tCB (rSetL X.K X.w) (tCons (tX X.K (RQ X.K) f) tNil)) tNil)) (le1 (g := gSortS) (R1 := RQ X.K) (r := fun x H Q => rSetL X.K X.w [x] H fun y H2 => rSortedSet X.w [y] H2 Q) bkO fun B Hf env σ H0 H x d1 d Q S r1 z k => by
    obtain ⟨ns, rfl, z2⟩ := onIs_some (g := fun ns => if Nat.blt ns.length 60 then some (.list ((ddI (sortI ns)).map .int)) else none) z
    split at z2
    · rename_i h60
      have h60 : ns.length < 60 := Nat.blt_eq.mp h60
      cases z2
      obtain ⟨q, xs, rfl, hq, rk⟩ := rq_lst S r1
      rw [rk.ints] at hq
      refine ⟨q, ns, rfl, hq, by unfold scanBound; omega, fun T c hT le => ⟨T, _, c, rfl, upd_same, by omega, fun ms l up mem hl0 hl => ?_⟩⟩
      have em : ms = ddI (sortI ns) := up_uniq up (ddI_up _ (sortI_ord ns)) fun k => by
        rw [mem k, ddI_mem, (sortI_perm ns).mem_iff]
        exact decide_eq_true_iff
      rw [em]
      have S2 : StOk X.K B Hf env σ (upd H T (SetO X.w T (fun j => decide (j ∈ ns)) c)) := S.new hT
      exact opw_lst S2 (RpA.of_ints _) (fun v Hf' H' S' s' g' r' => k v Hf' H' S' ((same_new hT).trans s') ⟨g'.same, fun a fa na => g'.new a fa (same_ne (same_new hT) na)⟩ (by
        obtain ⟨p0, e0, h0, f0, r0⟩ := r'
        exact ⟨p0, e0, (same_new hT).free h0, f0, r0⟩)) hl
    · cases z2)
  (pe_callB (cr_sortedSet hc) hg hm boot_sorted (pa_cons (pe_callTy (cr_setL hc) hg2 hm2 (by decide +kernel) (pa_cons ha pa_nil hs) (he := hs) (hpl := hpl)) pa_nil hs1) (he := hs1) (hpl := hpl1))
end
end Q7

-- part Rz
set_option Elab.async false
set_option linter.all false
set_option maxRecDepth 100000
set_option maxHeartbeats 0
namespace Q7
open PySem PySem.Spec PyProof.Rows L2
open C8 (Cal pe_c)
section
variable {P : Program} {w : World} {K : PySem.W.Frag} {mg : Str → Option Value} {base : Heap} {f : Addr} {fd : FuncData}
theorem cal_product_of_row (M : Mg mg) (FD : FunD K "product_of_row" "product_of_row" (defArgs (top 55)) (defBody (top 55)) (defScope (top 55)) [] [] f fd) (hm : mg "product_of_row" = some (.ref f))  : CF P w K mg base 1 "product_of_row" F_product_of_row := by
  rw [hx_product_of_row]
  exact fn_F (g := g_product_of_row) (k := 0) FD hm (FD.bindsN fun _ _ _ _ _ _ us hl => match us, hl with | [_, _], _ => rfl) sc_product_of_row fun cdv A outer s H E hr =>
    have nd := sc_product_of_row.nd
    have hu4 := room4 hr
    have hu5 := room5 hr
    l_one (s_retF (c_tup (a_cons (c_gstr rfl M.c_WORD) (a_cons (c_tuple rfl M.b_tuple (qO (c_lc (own := [("step", 2), ("power", 3)]) rfl nd (i_zipLT rfl M.b_zip (c_nF (pv 0)) (c_nF (pv 1))) (blkOk_by (N := ["steps", "row", "step", "power"]) (sc := defScope (top 55)) (by decide +kernel)) (fun _ _ _ _ _ => g_tup rfl (gs_cons (g_nm (pg_name nd rfl (by first | exact Or.inl rfl | exact Or.inr rfl) (i := 2))) (gs_cons (g_nm (pg_name nd rfl (by first | exact Or.inl rfl | exact Or.inr rfl) (i := 3))) (gs_nil)))) (fun _ _ _ _ _ => t_one (b_ne hu4 (c_nQ (pv 3)) (qF (c_int)))) (fun _ _ _ _ _ => c_tup (a_cons (c_nF (pv 2)) (a_cons (c_nF (pv 3)) (a_nil)))) (by decide)))) (a_nil)))))
theorem cal__law_both (M : Mg mg) (FD : FunD K "_law_both" "_law_both" (defArgs (top 140)) (defBody (top 140)) (defScope (top 140)) [] [] f fd) (hm : mg "_law_both" = some (.ref f))  : CF P w K mg base 1 "_law_both" F__law_both := by
  rw [hx__law_both]
  exact fn_F (g := g__law_both) (k := 0) FD hm (FD.bindsN fun _ _ _ _ _ _ us hl => match us, hl with | [_, _], _ => rfl) sc__law_both fun cdv A outer s H E hr =>
    have nd := sc__law_both.nd
    have hu4 := room4 hr
    have hu5 := room5 hr
    l_cons (s_setO (i := 2) nd rfl (Or.inl rfl) (c_dct0)) (l_cons (s_for PassesOwn.never rfl (i_sq (fO (c_sortS rfl rfl M.b_sorted rfl M.b_set (qO (c_catL (wO (c_list rfl rfl M.b_list (c_nQ (pv 0)))) (wO (c_list rfl rfl M.b_list (c_nQ (pv 1))))))))) (g_nm (pg_name nd rfl (by first | exact Or.inl rfl | exact Or.inr rfl) (i := 3))) (l_one (s_dput hu4 (pv 2) (c_nQ (pv 3)) (c_add (qF (c_get hu4 (c_nQ (pv 0)) (c_nQ (pv 3)) (c_int) ⟨rfl, rfl, rfl, rfl⟩)) (qF (c_get hu4 (c_nQ (pv 1)) (c_nQ (pv 3)) (c_int) ⟨rfl, rfl, rfl, rfl⟩))) rfl))) (l_one (s_fz 2 (s_retF (c_nF (pv 2))))))
theorem cal__law_kind (M : Mg mg) (FD : FunD K "_law_kind" "_law_kind" (defArgs (top 126)) (defBody (top 126)) (defScope (top 126)) [] [] f fd) (hm : mg "_law_kind" = some (.ref f)) (c__law_power_sum : CF P w K mg base 1 "_law_power_sum" F__law_power_sum) : CF P w K mg base 2 "_law_kind" F__law_kind := by
  rw [hx__law_kind]
  exact fn_F (g := g__law_kind) (k := 1) FD hm (FD.bindsN fun _ _ _ _ _ _ us hl => match us, hl with | [_], _ => rfl) sc__law_kind fun cdv A outer s H E hr =>
    have nd := sc__law_kind.nd
    have hu4 := room4 hr
    have hu5 := room5 hr
    l_cons (s_par2 (o1 := false) (o2 := true) (i := 4) (j := 5) rfl nd rfl rfl (by decide) rfl rfl (c_div (qF (c_call bkF c__law_power_sum hr (by decide) rfl (a_cons (c_nF (pv 0)) (a_nil)))) (qF (c_int))) (c_dct0) rfl) (l_cons (s_forK lkF PassesOwn.never rfl (pv 0) (g_nm (pg_name nd rfl (by first | exact Or.inl rfl | exact Or.inr rfl) (i := 1))) (l_cons (s_par2 (o1 := false) (o2 := false) (i := 6) (j := 3) rfl nd rfl rfl (by decide) rfl rfl (c_nF (pv 1)) (c_int) rfl) (l_one (s_while PassesOwn.never (b_gt (c_nQ (pv 6)) (qF (c_int))) (l_cons (s_while PassesOwn.never (b_eq hu4 (qF (c_mod (qF (c_int1 rfl M.b_int (c_nQ (pv 6)))) (c_nQ (pv 3)))) (qF (c_int))) (l_one (s_asgK (j := 6) hu4 (pv 5) (c_nQ (pv 3)) (c_add (qF (c_get hu4 (c_nQ (pv 5)) (c_nQ (pv 3)) (c_int) ⟨rfl, rfl, rfl, rfl⟩)) (qF (c_ix hu4 (c_nQ (pv 0)) (c_nQ (pv 1)) (fun _ _ => rfl)))) (c_div (c_nQ (pv 6)) (c_nQ (pv 3))) (pg_name nd rfl (Or.inl rfl) (i := 6))))) (l_one (s_setF (i := 3) nd rfl (Or.inl rfl) (c_add (c_nQ (pv 3)) (qF (c_int)))))))))) (l_cons (s_setF (i := 2) nd rfl (Or.inl rfl) (c_if (b_eq hu4 (qF (c_mod (qF (c_int1 rfl M.b_int (c_nQ (pv 4)))) (qF (c_int)))) (qF (c_int))) (c_int) (c_neg (qF (c_int))))) (l_cons (s_fz 5 (s_forK lkF PassesOwn.never rfl (pv 5) (g_nm (pg_name nd rfl (by first | exact Or.inl rfl | exact Or.inr rfl) (i := 3))) (l_one (s_setF (i := 2) nd rfl (Or.inl rfl) (c_if (b_eq hu4 (qF (c_mod (qF (c_int1 rfl M.b_int (qF (c_ix hu4 (c_nQ (pv 5)) (c_nQ (pv 3)) (fun _ _ => rfl))))) (qF (c_int)))) (qF (c_int))) (c_mul (c_nQ (pv 2)) (c_nQ (pv 3))) (c_nF (pv 2))))))) (l_one (s_retF (c_tup (a_cons (c_nF (pv 4)) (a_cons (c_nF (pv 2)) (a_nil)))))))))
theorem cal_is_product_value (M : Mg mg) (FD : FunD K "is_product_value" "is_product_value" (defArgs (top 33)) (defBody (top 33)) (defScope (top 33)) [] [] f fd) (hm : mg "is_product_value" = some (.ref f)) (c_is_power_pair : CF P w K mg base 2 "is_power_pair" F_is_power_pair) : CF P w K mg base 3 "is_product_value" F_is_product_value := by
  rw [hx_is_product_value]
  exact fn_F (g := g_is_product_value) (k := 2) FD hm (FD.bindsN fun _ _ _ _ _ _ us hl => match us, hl with | [_], _ => rfl) sc_is_product_value fun cdv A outer s H E hr =>
    have nd := sc_is_product_value.nd
    have hu4 := room4 hr
    have hu5 := room5 hr
    l_cons (s_if (b_w (w_or (b_not (b_val (c_isTup rfl M.b_isinstance rfl M.b_tuple (c_nQ (pv 0))))) (w_or (b_ne hu4 (qF (c_len rfl M.b_len (c_nQ (pv 0)))) (qF (c_int))) (w_or (b_not (b_val (c_isStr rfl M.b_isinstance rfl M.b_str (qF (c_ix hu4 (c_nQ (pv 0)) (qF (c_int)) (fun _ _ => rfl)))))) (w_or1 (b_ne hu4 (qF (c_ix hu4 (c_nQ (pv 0)) (qF (c_int)) (fun _ _ => rfl))) (qF (c_gstr rfl M.c_WORD)))))))) (l_one (s_retF (c_bool))) (l_nil)) (l_cons (s_setF (i := 1) nd rfl (Or.inl rfl) (c_ix hu4 (c_nQ (pv 0)) (qF (c_int)) (fun _ _ => rfl))) (l_cons (s_if (b_w (w_or (b_not (b_val (c_isTup rfl M.b_isinstance rfl M.b_tuple (c_nQ (pv 1))))) (w_or (b_gt (qF (c_len rfl M.b_len (c_nQ (pv 1)))) (qF (c_gint rfl M.c_MOST_STEPS))) (w_or1 (b_not (b_val (c_all rfl rfl M.b_all (qO (c_lc (own := [("one", 2)]) rfl nd (i_sq (c_nF (pv 1))) (blkOk_by (N := ["value", "powers", "one", "late"]) (sc := defScope (top 33)) (by decide +kernel)) (fun _ _ _ _ _ => g_nm (pg_name nd rfl (by first | exact Or.inl rfl | exact Or.inr rfl) (i := 2))) (fun _ _ _ _ _ => t_nil) (fun _ _ _ _ _ => c_call bkF c_is_power_pair hr (by decide) rfl (a_cons (c_nF (pv 2)) (a_nil))) (by decide)))))))))) (l_one (s_retF (c_bool))) (l_nil)) (l_one (s_retF (c_all rfl rfl M.b_all (qO (c_lc (own := [("one", 2), ("late", 3)]) rfl nd (i_zipTT rfl M.b_zip (c_nF (pv 1)) (c_slT (c_nQ (pv 1)) (p_so (qF (c_int))) (p_no))) (blkOk_by (N := ["value", "powers", "one", "late"]) (sc := defScope (top 33)) (by decide +kernel)) (fun _ _ _ _ _ => g_tup rfl (gs_cons (g_nm (pg_name nd rfl (by first | exact Or.inl rfl | exact Or.inr rfl) (i := 2))) (gs_cons (g_nm (pg_name nd rfl (by first | exact Or.inl rfl | exact Or.inr rfl) (i := 3))) (gs_nil)))) (fun _ _ _ _ _ => t_nil) (fun _ _ _ _ _ => c_lt (qF (c_ix hu4 (c_nQ (pv 2)) (qF (c_int)) (fun _ _ => rfl))) (qF (c_ix hu4 (c_nQ (pv 3)) (qF (c_int)) (fun _ _ => rfl)))) (by decide))))))))
theorem cal__law_are_beside (M : Mg mg) (FD : FunD K "_law_are_beside" "_law_are_beside" (defArgs (top 133)) (defBody (top 133)) (defScope (top 133)) [] [] f fd) (hm : mg "_law_are_beside" = some (.ref f)) (c__law_fits : CF P w K mg base 2 "_law_fits" F__law_fits) (c__law_kind : CF P w K mg base 2 "_law_kind" F__law_kind) : CF P w K mg base 3 "_law_are_beside" F__law_are_beside := by
  rw [hx__law_are_beside]
  exact fn_F (g := g__law_are_beside) (k := 2) FD hm (FD.bindsN fun _ _ _ _ _ _ us hl => match us, hl with | [_, _, _], _ => rfl) sc__law_are_beside fun cdv A outer s H E hr =>
    have nd := sc__law_are_beside.nd
    have hu4 := room4 hr
    have hu5 := room5 hr
    l_cons (s_setO (i := 3) nd rfl (Or.inl rfl) (c_dct0)) (l_cons (s_for PassesOwn.never rfl (i_sq (fO (c_sortS rfl rfl M.b_sorted rfl M.b_set (qO (c_catL (wO (c_list rfl rfl M.b_list (c_nQ (pv 0)))) (wO (c_list rfl rfl M.b_list (c_nQ (pv 1))))))))) (g_nm (pg_name nd rfl (by first | exact Or.inl rfl | exact Or.inr rfl) (i := 4))) (l_one (s_dput hu4 (pv 3) (c_nQ (pv 4)) (c_sub (qF (c_get hu4 (c_nQ (pv 0)) (c_nQ (pv 4)) (c_int) ⟨rfl, rfl, rfl, rfl⟩)) (qF (c_get hu4 (c_nQ (pv 1)) (c_nQ (pv 4)) (c_int) ⟨rfl, rfl, rfl, rfl⟩))) rfl))) (l_one (s_fz 3 (s_retF (c_and (c_call bkF c__law_fits hr (by decide) rfl (a_cons (c_nF (pv 3)) (a_cons (c_nF (pv 2)) (a_nil)))) (c_one (c_eq hu4 (qF (c_call bkF c__law_kind hr (by decide) rfl (a_cons (c_nF (pv 3)) (a_nil)))) (qF (c_tup (a_cons (c_int) (a_cons (c_int) (a_nil))))))))))))
theorem cal_first_parting (M : Mg mg) (FD : FunD K "first_parting" "first_parting" (defArgs (top 100)) (defBody (top 100)) (defScope (top 100)) [] [] f fd) (hm : mg "first_parting" = some (.ref f)) (c_left_row : CO P w K mg base 4 "left_row" F_left_row) (c_right_row : CF P w K mg base 5 "right_row" F_right_row) : CF P w K mg base 6 "first_parting" F_first_parting := by
  rw [hx_first_parting]
  exact fn_F (g := g_first_parting) (k := 5) FD hm (FD.bindsN fun _ _ _ _ _ _ us hl => match us, hl with | [_, _, _, _, _], _ => rfl) sc_first_parting fun cdv A outer s H E hr =>
    have nd := sc_first_parting.nd
    have hu4 := room4 hr
    have hu5 := room5 hr
    l_cons (s_par2 (o1 := false) (o2 := false) (i := 5) (j := 6) rfl nd rfl rfl (by decide) rfl rfl (fO (c_call bkO c_left_row hr (by decide) rfl (a_cons (c_nF (pv 0)) (a_cons (c_nF (pv 1)) (a_cons (c_nF (pv 2)) (a_cons (c_add (c_nQ (pv 4)) (qF (c_int))) (a_nil))))))) (c_call bkF c_right_row hr (by decide) rfl (a_cons (c_nF (pv 0)) (a_cons (c_nF (pv 1)) (a_cons (c_nF (pv 2)) (a_cons (c_nF (pv 3)) (a_cons (c_add (c_nQ (pv 4)) (qF (c_int))) (a_nil))))))) rfl) (l_cons (s_for PassesOwn.never rfl (i_enz rfl M.b_enumerate rfl M.b_zip (c_nF (pv 5)) (c_nF (pv 6))) (g_tup rfl (gs_cons (g_nm (pg_name nd rfl (by first | exact Or.inl rfl | exact Or.inr rfl) (i := 7))) (gs_cons (g_tup rfl (gs_cons (g_nm (pg_name nd rfl (by first | exact Or.inl rfl | exact Or.inr rfl) (i := 8))) (gs_cons (g_nm (pg_name nd rfl (by first | exact Or.inl rfl | exact Or.inr rfl) (i := 9))) (gs_nil)))) (gs_nil)))) (l_one (s_if (b_ne hu4 (c_nQ (pv 8)) (c_nQ (pv 9))) (l_one (s_retF (c_tup (a_cons (c_nF (pv 7)) (a_cons (c_nF (pv 8)) (a_cons (c_nF (pv 9)) (a_nil))))))) (l_nil)))) (l_one (s_retF (c_none))))
end
end Q7

-- part Na
set_option Elab.async false
set_option linter.all false
set_option maxRecDepth 100000
/-! Na: quicker readings of the hot defs. -/
namespace Q7
open PySem PySem.Spec PyProof.Rows L2
open C8 (Cal pe_c)

theorem cal_imp {P : Program} {w : World} {K : PySem.W.Frag} {mg : Str → Option Value} {base : Heap} {k : Nat} {x : Str} {R : Md} {F F' : List PyData → Option PyData} (c : Cal P w K mg base k x (spF K R F) []) (h : ∀ ds d, F' ds = some d → F ds = some d) : Cal P w K mg base k x (spF K R F') [] := by
  obtain ⟨f, fd, ps, ds, fo, h1, h2, h3, h4⟩ := c.ex
  exact ⟨f, fd, ps, ds, fo.imp fun vs H Q E hs => spF_imp h hs, h1, h2, h3, h4⟩

/-! ### the greatest common divisor -/
theorem whl_gcd {c : Nv → Option Bool} {g : Sx} {st : Nat → Nat → Nv} (h0 : ∀ a, c (st a 0) = some false) (h1 : ∀ a b, b ≠ 0 → c (st a b) = some true) (h2 : ∀ a b, b ≠ 0 → g (st a b) = some (.nx (st b (a % b)))) :
    ∀ (k n a b : Nat), b < 2 ^ k → 2 * k + 1 ≤ n → whileF c g n (st a b) = some (.nx (st (Nat.gcd a b) 0)) := by
  have stop : ∀ (n a : Nat), 1 ≤ n → whileF c g n (st a 0) = some (.nx (st a 0)) := fun n a hn => by
    obtain ⟨m, rfl⟩ : ∃ m, n = m + 1 := ⟨n - 1, by omega⟩
    show ((c (st a 0)).bind fun b => if b then _ else some (Out.nx (st a 0))) = _
    rw [h0]
    rfl
  have step : ∀ (n a b : Nat), b ≠ 0 → whileF c g (n + 1) (st a b) = whileF c g n (st b (a % b)) := fun n a b hb => by
    show ((c (st a b)).bind fun q => if q then (g (st a b)).bind _ else some (Out.nx (st a b))) = _
    rw [h1 a b hb, h2 a b hb]
    rfl
  intro k
  induction k with
  | zero =>
    intro n a b hb hn
    have : b = 0 := by omega
    subst this
    rw [stop n a (by omega), Nat.gcd_zero_right]
  | succ k ih =>
    intro n a b hb hn
    by_cases e : b = 0
    · subst e
      rw [stop n a (by omega), Nat.gcd_zero_right]
    · obtain ⟨m, rfl⟩ : ∃ m, n = m + 2 := ⟨n - 2, by omega⟩
      rw [step (m + 1) a b e]
      by_cases e2 : a % b = 0
      · rw [e2, stop _ _ (by omega)]
        have : Nat.gcd a b = b := by rw [Nat.gcd_comm, Nat.gcd_rec, e2, Nat.gcd_zero_left]
        rw [this]
      · rw [step m b (a % b) e2]
        have hr : a % b < b := Nat.mod_lt _ (Nat.pos_of_ne_zero e)
        have hlt : b % (a % b) < 2 ^ k := by
          rw [Nat.pow_succ] at hb
          by_cases q : a % b ≤ 2 ^ k
          · exact Nat.lt_of_lt_of_le (Nat.mod_lt _ (Nat.pos_of_ne_zero e2)) q
          · have h3 : b % (a % b) = (b - a % b) % (a % b) := Nat.mod_eq_sub_mod (Nat.le_of_lt hr)
            have h4 : (b - a % b) % (a % b) ≤ b - a % b := Nat.mod_le _ _
            omega
        rw [ih m (a % b) (b % (a % b)) hlt (by omega)]
        have : Nat.gcd a b = Nat.gcd (a % b) (b % (a % b)) := by
          rw [Nat.gcd_comm a b, Nat.gcd_rec b a, Nat.gcd_rec (a % b) b, Nat.gcd_comm]
        rw [this]
theorem abs_nat (i : Int) : (if i < 0 then -i else i) = Int.ofNat i.natAbs := by
  show _ = ((i.natAbs : Nat) : Int)
  split <;> omega
theorem ne_of_dec {b : Nat} (h : b ≠ 0) : (!decide ((Int.ofNat b) = (0 : Int))) = true := by
  rw [decide_eq_false (by intro e; apply h; exact Int.ofNat.inj e)]
  rfl
theorem eqD_int (i j : Int) : eqD (.int i) (.int j) = some (decide (i = j)) := rfl
theorem gcd_F (ds : List PyData) (d : PyData) (h : nGcd ds = some d) : F_greatest_common ds = some d := by
  unfold nGcd at h
  split at h
  · rename_i a b
    split at h
    · rename_i hb
      cases h
      have hw := whl_gcd (c := oB (b2 (nQ 3) (kD (.int 0)) cNe)) (g := sPar2 2 3 false false (nF 3) (b2 (nQ 2) (nQ 3) aMod)) (st := fun x y => [.fr (.int a), .fr (.int b), .fr (.int (Int.ofNat x)), .fr (.int (Int.ofNat y))]) (fun x => rfl)
        (fun x y hy => by
          show (some (PyData.bool (!decide (Int.ofNat y = (0 : Int))))).bind asB = some true
          rw [ne_of_dec hy]
          rfl)
        (fun x y hy => by
          have e : aMod (.int (Int.ofNat x)) (.int (Int.ofNat y)) = some (.int (Int.ofNat (x % y))) := by
            show (if decide (Int.ofNat y ≠ 0) then some (PyData.int ((Int.ofNat x).fmod (Int.ofNat y))) else none) = _
            rw [if_pos (decide_eq_true (by intro e; exact hy (Int.ofNat.inj e))), fmodN]
          show (aMod (.int (Int.ofNat x)) (.int (Int.ofNat y))).bind _ = _
          rw [e]
          rfl) 60 3000 a.natAbs b.natAbs (Nat.lt_of_le_of_lt (Nat.le_of_ble_eq_true hb) (by decide)) (by decide)
      rw [hx_greatest_common]
      unfold runF g_greatest_common
      show (sCons _ _ _).bind _ = _
      unfold sCons
      have e0 : sPar2 2 3 false false (u1 (nQ 0) gAbs) (u1 (nQ 1) gAbs) (startN 4 [.int a, .int b]) = some (.nx [.fr (.int a), .fr (.int b), .fr (.int (Int.ofNat a.natAbs)), .fr (.int (Int.ofNat b.natAbs))]) := by
        rw [← abs_nat a, ← abs_nat b]
        rfl
      rw [e0]
      show ((whileF _ _ 3000 _).bind _ |>.bind _) = _
      rw [hw]
      rfl
    · cases h
  · cases h
theorem law_gcd_F (ds : List PyData) (d : PyData) (h : nGcd ds = some d) : F__law_gcd ds = some d := by
  unfold nGcd at h
  split at h
  · rename_i a b
    split at h
    · rename_i hb
      cases h
      have hw := whl_gcd (c := oB (b2 (nQ 1) (kD (.int 0)) cNe)) (g := sPar2 0 1 false false (nF 1) (b2 (u1 (nQ 0) gInt) (nQ 1) aMod)) (st := fun x y => [.fr (.int (Int.ofNat x)), .fr (.int (Int.ofNat y))]) (fun x => rfl)
        (fun x y hy => by
          show (some (PyData.bool (!decide (Int.ofNat y = (0 : Int))))).bind asB = some true
          rw [ne_of_dec hy]
          rfl)
        (fun x y hy => by
          have e : aMod (.int (Int.ofNat x)) (.int (Int.ofNat y)) = some (.int (Int.ofNat (x % y))) := by
            show (if decide (Int.ofNat y ≠ 0) then some (PyData.int ((Int.ofNat x).fmod (Int.ofNat y))) else none) = _
            rw [if_pos (decide_eq_true (by intro e; exact hy (Int.ofNat.inj e))), fmodN]
          show (aMod (.int (Int.ofNat x)) (.int (Int.ofNat y))).bind _ = _
          rw [e]
          rfl) 60 3000 a.natAbs b.natAbs (Nat.lt_of_le_of_lt (Nat.le_of_ble_eq_true hb) (by decide)) (by decide)
      rw [hx__law_gcd]
      unfold runF g__law_gcd
      show (sCons _ _ _).bind _ = _
      unfold sCons
      have e0 : sPar2 0 1 false false (u1 (nQ 0) gAbs) (u1 (nQ 1) gAbs) (startN 2 [.int a, .int b]) = some (.nx [.fr (.int (Int.ofNat a.natAbs)), .fr (.int (Int.ofNat b.natAbs))]) := by
        rw [← abs_nat a, ← abs_nat b]
        rfl
      rw [e0]
      show ((whileF _ _ 3000 _).bind _ |>.bind _) = _
      rw [hw]
      rfl
    · cases h
  · cases h
end Q7

-- part Qv
set_option Elab.async false
set_option linter.all false
set_option maxRecDepth 100000
/-! Qv: repr(x) == repr(y) of data that are the same. -/
namespace Q7
open PySem PySem.Spec PyProof.Rows L2
mutual
def shortD : PyData → Bool
  | .none => true
  | .bool _ => true
  | .str _ => true
  | .int i => Nat.blt i.natAbs 1000000000000
  | .list xs => shortA xs
  | .tuple xs => shortA xs
  | .dict _ => false
def shortA : List PyData → Bool
  | [] => true
  | d :: r => shortD d && shortA r
end
theorem blt_lt {a b : Nat} (h : Nat.blt a b = true) : a < b := Nat.le_of_ble_eq_true h
mutual
theorem short_ok : ∀ d : PyData, shortD d = true → d.showable = true ∧ d.intsShort 13 = true
  | .none, _ => ⟨by simp only [PyData.showable], by simp only [PyData.intsShort]⟩
  | .bool _, _ => ⟨by simp only [PyData.showable], by simp only [PyData.intsShort]⟩
  | .str _, _ => ⟨by simp only [PyData.showable], by simp only [PyData.intsShort]⟩
  | .int i, h => by
    have h1 : i.natAbs < 1000000000000 := blt_lt (by simpa only [shortD] using h)
    refine ⟨?_, ?_⟩
    · simp only [PyData.showable, decide_eq_true_eq]
      by_cases z : i.natAbs = 0
      · rw [z]
        decide
      · exact (Nat.log2_lt z).mpr (Nat.lt_of_lt_of_le h1 (by decide +kernel))
    · simp only [PyData.intsShort, decide_eq_true_eq]
      exact PyData.shown_int_le (by exact h1)
  | .list xs, h => by
    have q := shortA_ok xs (by simpa only [shortD] using h)
    exact ⟨by simpa only [PyData.showable] using q.1, by simpa only [PyData.intsShort] using q.2⟩
  | .tuple xs, h => by
    have q := shortA_ok xs (by simpa only [shortD] using h)
    exact ⟨by simpa only [PyData.showable] using q.1, by simpa only [PyData.intsShort] using q.2⟩
  | .dict _, h => by simp only [shortD] at h; exact nomatch h
theorem shortA_ok : ∀ ds : List PyData, shortA ds = true → PyData.showableAll ds = true ∧ PyData.intsShortAll 13 ds = true
  | [], _ => ⟨by simp only [PyData.showableAll], by simp only [PyData.intsShortAll]⟩
  | d :: r, h => by
    have h2 : shortD d = true ∧ shortA r = true := by simpa only [shortA, Bool.and_eq_true] using h
    have q1 := short_ok d h2.1
    have q2 := shortA_ok r h2.2
    exact ⟨by simp only [PyData.showableAll, q1.1, q2.1, Bool.and_true], by simp only [PyData.intsShortAll, q1.2, q2.2, Bool.and_true]⟩
end
def reprOk (d : PyData) : Bool := PyData.layable0 d && shortD d
theorem reprOk_ok {d : PyData} (h : reprOk d = true) : d.canLay0 = true ∧ d.depth ≤ 64 ∧ d.showable = true ∧ d.shown.length ≤ sizeLine := by
  obtain ⟨h1, h2⟩ := Bool.and_eq_true_iff.mp h
  obtain ⟨q1, q2⟩ := short_ok d h2
  have l := shown_le13 h1 q2
  have h3 : (PyData.canLay0 d && decide (PyData.depth d ≤ 64) && decide (PyData.weight d ≤ 2 ^ 20)) = true := h1
  simp only [Bool.and_eq_true, decide_eq_true_eq] at h3
  have e : sizeLine = 16777216 := by decide +kernel
  exact ⟨h3.1.1, h3.1.2, q1, by omega⟩
mutual
def sameD : PyData → PyData → Bool
  | .none, .none => true
  | .bool a, .bool b => a == b
  | .int a, .int b => decide (a = b)
  | .str a, .str b => decide (a = b)
  | .list a, .list b => sameA a b
  | .tuple a, .tuple b => sameA a b
  | _, _ => false
def sameA : List PyData → List PyData → Bool
  | [], [] => true
  | a :: r, b :: q => sameD a b && sameA r q
  | _, _ => false
end
mutual
theorem same_eq : ∀ a b : PyData, sameD a b = true → a = b
  | .none, b, h => by cases b <;> first | rfl | (simp only [sameD] at h; cases h)
  | .bool x, b, h => by
    cases b <;> first | (simp only [sameD] at h; cases h; done) | skip
    exact congrArg _ (by simpa only [sameD, beq_iff_eq] using h)
  | .int x, b, h => by
    cases b <;> first | (simp only [sameD] at h; cases h; done) | skip
    exact congrArg _ (by simpa only [sameD, decide_eq_true_eq] using h)
  | .str x, b, h => by
    cases b <;> first | (simp only [sameD] at h; cases h; done) | skip
    exact congrArg _ (by simpa only [sameD, decide_eq_true_eq] using h)
  | .list x, b, h => by
    cases b <;> first | (simp only [sameD] at h; cases h; done) | skip
    exact congrArg _ (sameA_eq x _ (by simpa only [sameD] using h))
  | .tuple x, b, h => by
    cases b <;> first | (simp only [sameD] at h; cases h; done) | skip
    exact congrArg _ (sameA_eq x _ (by simpa only [sameD] using h))
  | .dict x, b, h => by simp only [sameD] at h; cases h
theorem sameA_eq : ∀ a b : List PyData, sameA a b = true → a = b
  | [], b, h => by cases b <;> first | rfl | (simp only [sameA] at h; cases h)
  | x :: a, b, h => by
    cases b with
    | nil => simp only [sameA] at h; cases h
    | cons y b =>
      have h2 : sameD x y = true ∧ sameA a b = true := by simpa only [sameA, Bool.and_eq_true] using h
      rw [same_eq x y h2.1, sameA_eq a b h2.2]
end
section
variable {X : Cx}
def rRepr (K : PySem.W.Frag) : List V → Hp → VK → Prop := fun vs H Q => ∃ v d, vs = [v] ∧ Dp K H v d ∧ reprOk d = true ∧ Q (.str d.shown) H
theorem cr_repr (hg : X.A.guards = some []) (hu : X.A.units + 65 < cLine) : CallR X (.builtin "repr") (rRepr X.K) := by
  intro pins s σ H vs us Q I r h
  obtain ⟨v, d, rfl, hd, ok, q⟩ := h
  obtain ⟨h1, h2, h3, h4⟩ := reprOk_ok ok
  cases r with
  | cons r0 r1 =>
    cases r1
    obtain ⟨as, rd⟩ := Dp.reads I d v _ hd r0
    have hnd : d.hasDict = false := PyData.hasDict_of_canLay d h1
    have fin : ∀ (h' : Heap) (u tk : Tok), (∀ b o, s.heap.get? b = some o → h'.get? b = some o) → EP X pins σ Q (.str d.shown u) { s with heap := h', toks := tk } := fun h' u tk hk => ⟨.str d.shown, H, I.kept hk, ⟨u, rfl⟩, q⟩
    cases rd with
    | none => exact PySem.P.repr_of_none (fin s.heap _ _ fun _ _ e => e)
    | bool b => exact PySem.P.repr_of_bool (fin s.heap _ _ fun _ _ e => e)
    | int i t => exact PySem.P.repr_of_int (by simpa only [PyData.showable, decide_eq_true_eq] using h3) (fin s.heap _ _ fun _ _ e => e)
    | str x t => exact PySem.P.repr_of_str (fin s.heap _ _ fun _ _ e => e) h4
    | list g1 g2 g3 g4 => exact repr_of_reads' (Reads.list g1 g2 g3 g4) h3 (PyData.noDict_hsm hnd) hg (by omega) (fun _ _ e => e) fin h4
    | tuple g1 g2 g3 g4 => exact repr_of_reads' (Reads.tuple g1 g2 g3 g4) h3 (PyData.noDict_hsm hnd) hg (by omega) (fun _ _ e => e) fin h4
    | dict g1 g2 g3 g4 => simp only [PyData.canLay0] at h1; cases h1
theorem boot_repr : bootBuiltins ("repr" : Str) = some (.builtin "repr") := by decide +kernel
def gRepr (d : PyData) : Option PyData := if reprOk d then some (.str d.shown) else none
variable {f f1 f2 : Nv → Option PyData} {a b : Expr} {p p2 pos pos1 pos2 : Pos}
theorem c_repr (hg : X.A.guards = some []) (hu : X.A.units + 65 < cLine) (hgl : Gl X "repr") (hm : X.mg "repr" = none) (ha : PQ X a f) (hs : starEach [a] X.env = (false, eval a X.env) :: starEach [] X.env := by rfl) (hpl : (backTo pos (starEach [] X.env)).any (·.1) = false := by rfl) :
    PF X (.Call (.Name "repr" p) [a] [] pos) (u1 f gRepr) :=
  c_B1 bkF (cr_repr hg hu) hgl hm boot_repr ha (fun B Hf env σ H0 H x d1 d Q S r1 z k => by
    unfold gRepr at z
    split at z
    · rename_i ok
      cases z
      exact ⟨x, d1, rfl, rq_dp S (reprOk_ok ok).1 r1, ok, opw_sc S rfl k⟩
    · cases z) (hs := hs) (hpl := hpl)
def cSt : PyData → PyData → Option PyData
  | .str x, .str y => some (.bool (decide (V.str x = V.str y)))
  | _, _ => none
def cStN : PyData → PyData → Option PyData
  | .str x, .str y => some (.bool (!decide (V.str x = V.str y)))
  | _, _ => none
theorem rf_str {K : PySem.W.Frag} {H0 Hf H : Hp} {x : Str} {v : V} (r : RF K H0 Hf H (.str x) v) : v = .str x := r
theorem le_st {K : PySem.W.Frag} : Le K (RF K) (b2 f1 f2 cSt) (tOp rEq (tX K (RF K) f1) (tX K (RF K) f2)) :=
  le2 (R1 := RF K) (R2 := RF K) fwF bkF fun B Hf env σ H0 H x y d1 d2 d Q S r1 r2 z k => by
    cases d1 <;> first | cases z; done | skip
    cases d2 <;> first | cases z; done | skip
    cases z
    rw [rf_str r1, rf_str r2]
    exact ⟨rfl, opw_bl S k⟩
theorem le_stN {K : PySem.W.Frag} : Le K (RF K) (b2 f1 f2 cStN) (tOp rNe (tX K (RF K) f1) (tX K (RF K) f2)) :=
  le2 (R1 := RF K) (R2 := RF K) fwF bkF fun B Hf env σ H0 H x y d1 d2 d Q S r1 r2 z k => by
    cases d1 <;> first | cases z; done | skip
    cases d2 <;> first | cases z; done | skip
    cases z
    rw [rf_str r1, rf_str r2]
    exact ⟨rfl, opw_bl S k⟩
def gSame (d e : PyData) : Option PyData := if reprOk d && sameD d e then some (.bool true) else none
def gSameN (d e : PyData) : Option PyData := if reprOk d && sameD d e then some (.bool false) else none
theorem pf_weak {K : PySem.W.Frag} {R : Md} {e : Expr} {f f' : Nv → Option PyData} (h : ∀ env d, f' env = some d → f env = some d) (p : PE X e (tX X.K R f)) : PE X e (tX X.K R f') :=
  pe_imp p fun σ H Q ⟨B, Hf, env, d, S, z, k⟩ => ⟨B, Hf, env, d, S, h env d z, k⟩
theorem same_w {env : Nv} {d : PyData} (z : b2 f1 f2 gSame env = some d) : b2 (u1 f1 gRepr) (u1 f2 gRepr) cSt env = some d := by
  unfold b2 at z ⊢
  obtain ⟨x, z1, z2⟩ := Option.bind_eq_some_iff.mp z
  obtain ⟨y, z3, z4⟩ := Option.bind_eq_some_iff.mp z2
  unfold gSame at z4
  split at z4
  · rename_i q
    obtain ⟨q1, q2⟩ := Bool.and_eq_true_iff.mp q
    cases z4
    cases same_eq _ _ q2
    have e1 : u1 f1 gRepr env = some (.str x.shown) := by
      unfold u1
      rw [z1]
      exact if_pos q1
    have e2 : u1 f2 gRepr env = some (.str x.shown) := by
      unfold u1
      rw [z3]
      exact if_pos q1
    rw [e1, e2]
    exact congrArg (fun b => some (PyData.bool b)) (decide_eq_true rfl)
  · cases z4
theorem same_wN {env : Nv} {d : PyData} (z : b2 f1 f2 gSameN env = some d) : b2 (u1 f1 gRepr) (u1 f2 gRepr) cStN env = some d := by
  unfold b2 at z ⊢
  obtain ⟨x, z1, z2⟩ := Option.bind_eq_some_iff.mp z
  obtain ⟨y, z3, z4⟩ := Option.bind_eq_some_iff.mp z2
  unfold gSameN at z4
  split at z4
  · rename_i q
    obtain ⟨q1, q2⟩ := Bool.and_eq_true_iff.mp q
    cases z4
    cases same_eq _ _ q2
    have e1 : u1 f1 gRepr env = some (.str x.shown) := by
      unfold u1
      rw [z1]
      exact if_pos q1
    have e2 : u1 f2 gRepr env = some (.str x.shown) := by
      unfold u1
      rw [z3]
      exact if_pos q1
    rw [e1, e2]
    exact congrArg (fun b => some (PyData.bool (!b))) (decide_eq_true rfl)
  · cases z4
/-- repr(a) == repr(b) -/
theorem c_same (hg : X.A.guards = some []) (hu : X.A.units + 65 < cLine) (hgl : Gl X "repr") (hm : X.mg "repr" = none) (ha : PQ X a f1) (hb : PQ X b f2)
    (hs : starEach [a] X.env = (false, eval a X.env) :: starEach [] X.env := by rfl) (hs2 : starEach [b] X.env = (false, eval b X.env) :: starEach [] X.env := by rfl) (hpl : (backTo pos1 (starEach [] X.env)).any (·.1) = false := by rfl) (hpl2 : (backTo pos2 (starEach [] X.env)).any (·.1) = false := by rfl) :
    PF X (.Compare (.Call (.Name "repr" p) [a] [] pos1) [.Eq] [.Call (.Name "repr" p2) [b] [] pos2] pos) (b2 f1 f2 gSame) :=
  pf_weak (K := X.K) (fun env d z => same_w z) (le_st.pe (pe_cmpR op_eq (c_repr hg hu hgl hm ha hs hpl) (c_repr hg hu hgl hm hb hs2 hpl2) (nomark _)))
theorem b_sameN (hg : X.A.guards = some []) (hu : X.A.units + 65 < cLine) (hgl : Gl X "repr") (hm : X.mg "repr" = none) (ha : PQ X a f1) (hb : PQ X b f2)
    (hs : starEach [a] X.env = (false, eval a X.env) :: starEach [] X.env := by rfl) (hs2 : starEach [b] X.env = (false, eval b X.env) :: starEach [] X.env := by rfl) (hpl : (backTo pos1 (starEach [] X.env)).any (·.1) = false := by rfl) (hpl2 : (backTo pos2 (starEach [] X.env)).any (·.1) = false := by rfl) :
    PB X (.Compare (.Call (.Name "repr" p) [a] [] pos1) [.NotEq] [.Call (.Name "repr" p2) [b] [] pos2] pos) (oB (b2 f1 f2 gSameN)) :=
  pt_imp (le_stN.pt rfl (pt_cmpR op_ne (c_repr hg hu hgl hm ha hs hpl) (c_repr hg hu hgl hm hb hs2 hpl2) (nomark _))) fun σ H Q ⟨B, Hf, env, d, S, z, k⟩ => ⟨B, Hf, env, d, S, by
    obtain ⟨x, z1, z2⟩ := Option.bind_eq_some_iff.mp z
    exact Option.bind_eq_some_iff.mpr ⟨x, same_wN z1, z2⟩, k⟩
end
end Q7

-- part Qq
set_option Elab.async false
set_option linter.all false
set_option maxRecDepth 100000
/-! Qq: readings with several outcomes, over a pot of two numbers that is drawn from. -/
namespace Q7
open PySem PySem.Spec PyProof.Rows L2
open C8 (Cal pe_c)

def PotO (o : HO) : Prop := ∃ a b : Int, o = .lst [.int a, .int b] ∧ 0 ≤ a
/-- the pot stands at p, the first name holds it -/
structure NSt (K : PySem.W.Frag) (B : Hp) (p : Addr) (o : HO) (Hf : Hp) (env : Nv) (σ : L2.St) (H : Hp) : Prop where
  bp : B p = none
  po : PotO o
  hf : Hf p = none
  st : StOk K (upd B p o) Hf env σ H
  c0 : env[0]? = some (.raw (.ref p))
section
variable {K : PySem.W.Frag} {B Hf Hf' H H' : Hp} {p : Addr} {o o' : HO} {env e : Nv} {σ σ' : L2.St}
theorem NSt.hp (S : NSt K B p o Hf env σ H) : H p = some o := S.st.base p o upd_same
theorem grow_up (g : Grow Hf Hf' (upd B p o)) : Grow Hf Hf' B := ⟨g.same, fun a f n => g.new a f fun w => by
  by_cases ea : a = p
  · subst ea
    rw [upd_same] at w
    cases w
  · rw [upd_ne ea] at w
    exact n w⟩
theorem NSt.next (S : NSt K B p o Hf env σ H) (S' : StOk K (upd B p o) Hf' e σ' H') (g : Grow Hf Hf' (upd B p o)) (c : e[0]? = env[0]?) : NSt K B p o Hf' e σ' H' :=
  ⟨S.bp, S.po, g.new p S.hf (by rw [upd_same]; exact fun w => nomatch w), S', c.trans S.c0⟩
/-- the pot is changed -/
theorem NSt.draw (S : NSt K B p o Hf env σ H) (h : PotO o') : NSt K B p o' Hf env σ (upd H p o') := by
  refine ⟨S.bp, h, S.hf, ⟨sub_updR S.st.sub S.hf, fun a u e => ?_, S.st.len, fun i c e => ?_, S.st.apart⟩, S.c0⟩
  · by_cases ea : a = p
    · subst ea
      rw [upd_same] at e ⊢
      exact e
    · rw [upd_ne ea] at e ⊢
      exact S.st.base a u (by rw [upd_ne ea]; exact e)
  · have hc := S.st.cell i c e
    cases c with
    | un => trivial
    | raw v => exact hc
    | fr d => exact hc
    | ow d =>
      obtain ⟨q, k1, k2, k3, k4⟩ := hc
      have ne : q ≠ p := fun w => by
        rw [w, upd_same] at k2
        cases k2
      rw [upd_ne ne] at k2
      exact ⟨q, k1, by rw [upd_ne ne]; exact k2, k3, k4.mono (Same.refl _) (upd_ne ne)⟩
/-- an expression's outcomes -/
def tNx (K : PySem.W.Frag) (f : Nv → Option (List PyData)) : TE := fun σ H Q => ∃ B p o Hf env ds, NSt K B p o Hf env σ H ∧ f env = some ds ∧
  ∀ d ∈ ds, ∀ v o' Hf' H', NSt K B p o' Hf' env σ H' → Grow Hf Hf' B → Rp K Hf' d v → Q v H'
def tTN (K : PySem.W.Frag) (f : Nv → Option (List Bool)) : TT := fun σ H Q => ∃ B p o Hf env ds, NSt K B p o Hf env σ H ∧ f env = some ds ∧
  ∀ d ∈ ds, ∀ o' Hf' H', NSt K B p o' Hf' env σ H' → Grow Hf Hf' B → Q d H'
abbrev PN (X : Cx) (e : Expr) (f : Nv → Option (List PyData)) : Prop := PE X e (tNx X.K f)
abbrev PTn (X : Cx) (e : Expr) (f : Nv → Option (List Bool)) : Prop := PT X e (tTN X.K f)
def one1 {α : Type} (f : Nv → Option α) : Nv → Option (List α) := fun env => (f env).map fun d => [d]
/-- all of a list's outcomes -/
def allO {α β : Type} (f : α → Option (List β)) : List α → Option (List β)
  | [] => some []
  | a :: r => (f a).bind fun x => (allO f r).map (x ++ ·)
theorem allO_mem {α β : Type} {f : α → Option (List β)} {a : α} : ∀ {l : List α} {r : List β}, allO f l = some r → a ∈ l → ∃ x, f a = some x ∧ ∀ b ∈ x, b ∈ r
  | [], _, _, h => by cases h
  | c :: l, r, z, h => by
    obtain ⟨x, z1, z2⟩ := Option.bind_eq_some_iff.mp (show (f c).bind _ = some r from z)
    obtain ⟨y, z3, rfl⟩ := Option.map_eq_some_iff.mp z2
    rcases List.mem_cons.mp h with rfl | h
    · exact ⟨x, z1, fun b hb => List.mem_append_left _ hb⟩
    · obtain ⟨x2, w1, w2⟩ := allO_mem z3 h
      exact ⟨x2, w1, fun b hb => List.mem_append_right _ (w2 b hb)⟩
end
section
variable {X : Cx} {e a b c : Expr} {f : Nv → Option PyData} {g g1 g2 : Nv → Option (List PyData)} {pos : Pos}
theorem n_F (h : PF X e f) : PN X e (one1 f) := pe_imp h fun σ H Q ⟨B, p, o, Hf, env, ds, S, z, k⟩ => by
  obtain ⟨d, z1, rfl⟩ := Option.map_eq_some_iff.mp z
  refine ⟨upd B p o, Hf, env, d, S.st, z1, fun v Hf' H' S' s' g' r => ?_⟩
  have g2 := g'.toB S.st.base
  exact k d List.mem_cons_self v o Hf' H' (S.next S' g2 rfl) (grow_up g2) r
theorem n_B {f : Nv → Option Bool} (h : PB X e f) : PTn X e (one1 f) := pt_imp h fun σ H Q ⟨B, p, o, Hf, env, ds, S, z, k⟩ => by
  obtain ⟨d, z1, rfl⟩ := Option.map_eq_some_iff.mp z
  refine ⟨upd B p o, Hf, env, d, S.st, z1, fun Hf' H' S' s' g' => ?_⟩
  have g2 := g'.toB S.st.base
  exact k d List.mem_cons_self o Hf' H' (S.next S' g2 rfl) (grow_up g2)
/-- draw == c, as a test -/
def eqs (c : Int) : List PyData → Option (List Bool)
  | [] => some []
  | .int i :: r => (eqs c r).map (decide (i = c) :: ·)
  | _ :: _ => none
theorem eqs_mem {c : Int} : ∀ {ds : List PyData} {bs : List Bool} {d : PyData}, eqs c ds = some bs → d ∈ ds → ∃ i, d = .int i ∧ decide (i = c) ∈ bs
  | [], _, _, _, h => by cases h
  | x :: ds, bs, d, z, h => by
    cases x <;> first | (cases z; done) | skip
    rename_i i
    obtain ⟨y, z1, rfl⟩ := Option.map_eq_some_iff.mp (show (eqs c ds).map (decide (i = c) :: ·) = some bs from z)
    rcases List.mem_cons.mp h with rfl | h
    · exact ⟨i, rfl, List.mem_cons_self⟩
    · obtain ⟨j, e1, e2⟩ := eqs_mem z1 h
      exact ⟨j, e1, List.mem_cons_of_mem _ e2⟩
theorem n_eq {j : Nat} {pos2 : Pos} {k : Int} (h : PN X e g) : PTn X (.Compare e [.Eq] [.Constant (.int k) j pos2] pos) (fun env => (g env).bind (eqs k)) :=
  pt_imp (pt_cmpR op_eq h (pe_int (i := k)) (nomark _)) fun σ H Q ⟨B, p, o, Hf, env, ds, S, z, q⟩ => by
    obtain ⟨es, z1, z2⟩ := Option.bind_eq_some_iff.mp z
    refine ⟨B, p, o, Hf, env, es, S, z1, fun d hd v o' Hf' H' S' g' r => ?_⟩
    obtain ⟨i, rfl, hm⟩ := eqs_mem z2 hd
    obtain rfl : v = V.int i := r
    refine ⟨rfl, _, rfl, ?_⟩
    have w := q _ hm o' Hf' H' S' g'
    by_cases h : i = k
    · rw [decide_eq_true (show V.int i = V.int k from congrArg V.int h)]
      rw [decide_eq_true h] at w
      exact w
    · rw [decide_eq_false (show ¬ V.int i = V.int k from fun z => h (V.int.inj z))]
      rw [decide_eq_false h] at w
      exact w
/-- a and (draw ..) -/
def nAnd (f : Nv → Option Bool) (g : Nv → Option (List Bool)) : Nv → Option (List Bool) := fun env => (f env).bind fun b => if b then g env else some [false]
theorem n_and {f : Nv → Option Bool} {gb : Nv → Option (List Bool)} (ha : PB X a f) (hb : PTn X b gb) : PTn X (.BoolOp .And [a, b] pos) (nAnd f gb) :=
  PW.pt (⟨fun w pins s σ H Q I q => (pw_and ha (pw_and1 hb)).run w pins s σ H Q I (by
    obtain ⟨B, p, o, Hf, env, ds, S, z, k⟩ := q
    obtain ⟨c, z1, z2⟩ := Option.bind_eq_some_iff.mp z
    refine ⟨upd B p o, Hf, env, c, S.st, z1, fun Hf' H' S' s' g' => ?_⟩
    have g2 := g'.toB S.st.base
    have N := S.next S' g2 rfl
    cases c with
    | true => exact iteT ⟨B, p, o, Hf', env, ds, N, z2, fun d hd o' Hf2 H2 N2 g3 => k d hd o' Hf2 H2 N2 ((grow_up g2).tr g3)⟩
    | false =>
      cases z2
      exact iteF (k false List.mem_cons_self o Hf' H' N (grow_up g2)))⟩ : PW X (.BoolOp .And [a, b] pos) (tTN X.K (nAnd f gb)))
def nIf (c : Nv → Option (List Bool)) (f g : Nv → Option (List PyData)) : Nv → Option (List PyData) := fun env => (c env).bind (allO fun b => if b then f env else g env)
theorem n_if {gb : Nv → Option (List Bool)} (hc : PTn X c gb) (ha : PN X a g1) (hb : PN X b g2) : PN X (.IfExp c a b pos) (nIf gb g1 g2) := pe_imp (pe_ifExp hc ha hb) fun σ H Q ⟨B, p, o, Hf, env, ds, S, z, k⟩ => by
  obtain ⟨bs, z1, z2⟩ := Option.bind_eq_some_iff.mp z
  refine ⟨B, p, o, Hf, env, bs, S, z1, fun c hc o' Hf' H' S' g' => ?_⟩
  obtain ⟨xs, z3, hm⟩ := allO_mem z2 hc
  cases c with
  | true => exact iteT ⟨B, p, o', Hf', env, xs, S', z3, fun d hd v o2 Hf2 H2 S2 g2 r => k d (hm d hd) v o2 Hf2 H2 S2 (g'.tr g2) r⟩
  | false => exact iteF ⟨B, p, o', Hf', env, xs, S', z3, fun d hd v o2 Hf2 H2 S2 g2 r => k d (hm d hd) v o2 Hf2 H2 S2 (g'.tr g2) r⟩
/-- {k: draw} -/
def nDct (f : Nv → Option PyData) (g : Nv → Option (List PyData)) : Nv → Option (List PyData) := fun env => (f env).bind fun k => match k with
  | .int i => (g env).map fun ds => ds.map fun d => .dict [(.int i, d)]
  | _ => none
theorem st_hold {K : PySem.W.Frag} {B Hf H : Hp} {env : Nv} {σ : L2.St} {q : Addr} {u : HO} (S : StOk K B Hf env σ H) (hq : H q = none) : StOk K (upd B q u) Hf env σ (upd H q u) := by
  have S1 := S.new (o := u) hq
  refine ⟨S1.sub, fun a w e => ?_, S1.len, fun i c e => ?_, S1.apart⟩
  · by_cases ea : a = q
    · subst ea
      rw [upd_same] at e ⊢
      exact e
    · rw [upd_ne ea] at e
      exact S1.base a w e
  · have h0 := S.cell i c e
    have h1 := S1.cell i c e
    cases c with
    | un => trivial
    | raw v => exact h1
    | fr d => exact h1
    | ow d =>
      obtain ⟨r, k1, k2, k3, k4⟩ := h1
      obtain ⟨r0, j1, _, _, j4⟩ := h0
      cases j1.symm.trans k1
      have ne : r ≠ q := fun w => j4.there (w ▸ hq)
      exact ⟨r, k1, by rw [upd_ne ne]; exact k2, k3, k4⟩
theorem st_unhold {K : PySem.W.Frag} {B Hf H : Hp} {env : Nv} {σ : L2.St} {q : Addr} {u u' : HO} (S : StOk K (upd B q u) Hf env σ H) (hb : B q = none) (hf : Hf q = none) : StOk K B (upd Hf q u') env σ (upd H q u') := by
  refine ⟨sub_upd2 S.sub, fun a w e => ?_, S.len, fun i c e => ?_, S.apart⟩
  · have ea : a ≠ q := fun z => by
      rw [z, hb] at e
      cases e
    rw [upd_ne ea]
    exact S.base a w (by rw [upd_ne ea]; exact e)
  · have h0 := S.cell i c e
    cases c with
    | un => trivial
    | raw v => exact h0
    | fr d =>
      obtain ⟨v, k1, k2⟩ := h0
      exact ⟨v, k1, Rp.mono (same_new hf) _ _ k2⟩
    | ow d =>
      obtain ⟨r, k1, k2, k3, k4⟩ := h0
      have ne : r ≠ q := fun w => by
        rw [w, upd_same] at k2
        cases k2
      rw [upd_ne ne] at k2
      exact ⟨r, k1, k2, by rw [upd_ne ne]; exact k3, k4.mono (same_new hf) (upd_ne ne)⟩
theorem upd_swap {B : Hp} {p q : Addr} {o u : HO} (h : p ≠ q) : upd (upd B p o) q u = upd (upd B q u) p o := by
  funext a
  by_cases e1 : a = q
  · subst e1
    rw [upd_same, upd_ne h.symm, upd_same]
  · by_cases e2 : a = p
    · subst e2
      rw [upd_ne e1, upd_same, upd_same]
    · rw [upd_ne e1, upd_ne e2, upd_ne e2, upd_ne e1]
theorem n_dct (hk : PF X a f) (hv : PN X b g) : PN X (.Dict [some a] [b] pos) (nDct f g) := pe_imp (pe_disp (pps_cons hk hv pps_nil) (by rfl) (by rfl) (fun z => by cases z) (by show 1 ≤ 15; decide)) fun σ H Q ⟨B, p, o, Hf, env, ds, S, z, k⟩ => by
  obtain ⟨kd, z1, z2⟩ := Option.bind_eq_some_iff.mp z
  obtain ⟨i, rfl⟩ : ∃ i, kd = .int i := by
    cases kd <;> first | exact ⟨_, rfl⟩ | cases z2
  obtain ⟨es, z3, rfl⟩ := Option.map_eq_some_iff.mp z2
  intro q hq
  have npq : p ≠ q := fun w => by
    rw [← w, S.hp] at hq
    cases hq
  have bq : B q = none := by
    have w := S.st.bfree hq
    rwa [upd_ne npq.symm] at w
  have fq : Hf q = none := S.st.hfree hq
  have S0 : StOk X.K (upd (upd B q (.dK [])) p o) Hf env σ (upd H q (.dK [])) := by
    rw [← upd_swap npq]
    exact st_hold S.st hq
  refine ⟨_, Hf, env, _, S0, z1, fun v Hf1 H1 S1 s1 g1 r1 => ?_⟩
  have gg := g1.toB S0.base
  obtain rfl : v = V.int i := r1
  have B0 : upd B q (.dK []) p = none := by rw [upd_ne npq]; exact S.bp
  have N0 : NSt X.K (upd B q (.dK [])) p o Hf env σ (upd H q (.dK [])) := ⟨B0, S.po, S.hf, S0, S.c0⟩
  have N1 := N0.next S1 gg rfl
  refine ⟨_, p, o, Hf1, env, es, N1, z3, fun d hd u o2 Hf2 H2 N2 g2 r2 => ?_⟩
  have hq2 : H2 q = some (.dK []) := N2.st.base q _ (by rw [upd_ne npq.symm, upd_same])
  have fq1 : Hf1 q = none := gg.new q fq (by rw [upd_ne npq.symm, upd_same]; exact fun w => nomatch w)
  have fq2 : Hf2 q = none := g2.new q fq1 (by rw [upd_same]; exact fun w => nomatch w)
  refine ⟨hq2, [(Sum.inl i, u)], rfl, (by show 1 ≤ 15; decide), ?_⟩
  have S3 : StOk X.K (upd (upd B p o2) q (.dK [])) Hf2 env σ H2 := by
    rw [upd_swap npq]
    exact N2.st
  have bq2 : upd B p o2 q = none := by rw [upd_ne npq.symm]; exact bq
  refine k _ (List.mem_map.mpr ⟨d, hd, rfl⟩) (.ref q) o2 _ _ ⟨S.bp, N2.po, by rw [upd_ne npq]; exact N2.hf, st_unhold S3 bq2 fq2, S.c0⟩ ⟨gg.same.trans (g2.same.trans (same_new fq2)), fun a f n => ?_⟩ ⟨q, _, rfl, upd_same, ⟨i, u, [], rfl, rfl, Rp.mono (same_new fq2) _ _ r2, rfl⟩⟩
  have aq : a ≠ q := fun w => n (w ▸ bq)
  have n1 : upd B q (.dK []) a ≠ none := by rw [upd_ne aq]; exact n
  rw [upd_ne aq]
  refine g2.new a (gg.new a f ?_) n1
  by_cases ap : a = p
  · rw [ap, upd_same]
    exact fun w => nomatch w
  · rw [upd_ne ap]
    exact n1
end
end Q7

-- part Qr
set_option Elab.async false
set_option linter.all false
set_option maxRecDepth 100000
/-! Qr: statements with several outcomes, defs that draw from the pot. -/
namespace Q7
open PySem PySem.Spec PyProof.Rows L2
open C8 (Cal pe_c)

abbrev Nx := Nv → Option (List Out)
def outN (K : PySem.W.Frag) (D : Ends) (B : Hp) (p : Addr) (Hf : Hp) : Out → Prop
  | .nx e => ∀ σ' o' Hf' H', NSt K B p o' Hf' e σ' H' → Grow Hf Hf' B → D.nx σ' H'
  | .rt d => ∀ v o' Hf' H', PotO o' → Hf' p = none → Sub Hf' H' → Same (upd B p o') H' → Grow Hf Hf' B → Rp K Hf' d v → D.rt v H'
def tSN (K : PySem.W.Frag) (g : Nx) : TS := fun D σ H => ∃ B p o Hf env outs, NSt K B p o Hf env σ H ∧ g env = some outs ∧ ∀ out ∈ outs, outN K D B p Hf out
abbrev PSn (X : Cx) (st : Stmt) (g : Nx) : Prop := PS X st (tSN X.K g)
abbrev PLn (X : Cx) (st : List Stmt) (g : Nx) : Prop := PSs X st (tSN X.K g)
theorem outN.mono {K : PySem.W.Frag} {D : Ends} {B Hf Hf' : Hp} {p : Addr} {out : Out} (g : Grow Hf Hf' B) (k : outN K D B p Hf out) : outN K D B p Hf' out := by
  cases out with
  | nx e => exact fun σ' o' Hf2 H' S g2 => k σ' o' Hf2 H' S (g.tr g2)
  | rt d => exact fun v o' Hf2 H' h1 h2 h3 h4 g2 => k v o' Hf2 H' h1 h2 h3 h4 (g.tr g2)
/-- the first name stays -/
def keep0 (g : Sx) : Prop := ∀ env e, g env = some (.nx e) → e[0]? = env[0]?
def keepB (b : Bd) : Prop := ∀ d env e, b d env = some e → e[0]? = env[0]?
theorem set0 {i : Nat} {env : Nv} {c : Cell} (h : i ≠ 0) : (env.set i c)[0]? = env[0]? := List.getElem?_set_ne h
theorem kp_set {i : Nat} {f : Nv → Option PyData} (h : i ≠ 0 := by decide) : keep0 (sSet i f) := fun env e z => by
  obtain ⟨d, z1, z2⟩ := Option.bind_eq_some_iff.mp z
  cases z2
  exact set0 h
theorem kp_setO {i : Nat} {f : Nv → Option PyData} (h : i ≠ 0 := by decide) : keep0 (sSetO i f) := fun env e z => by
  obtain ⟨d, z1, z2⟩ := Option.bind_eq_some_iff.mp z
  cases z2
  exact set0 h
theorem kp_par2 {i j : Nat} {o1 o2 : Bool} {f1 f2 : Nv → Option PyData} (h : i ≠ 0 := by decide) (h2 : j ≠ 0 := by decide) : keep0 (sPar2 i j o1 o2 f1 f2) := fun env e z => by
  obtain ⟨d, z1, z⟩ := Option.bind_eq_some_iff.mp z
  obtain ⟨d2, z2, z⟩ := Option.bind_eq_some_iff.mp z
  cases z
  exact (set0 h2).trans (set0 h)
theorem fz0 {i : Nat} {env : Nv} (h : i ≠ 0) : (fz i env)[0]? = env[0]? := by
  unfold fz
  split
  · exact set0 h
  · rfl
theorem kp_fz {i : Nat} {g : Sx} (k : keep0 g) (h : i ≠ 0 := by decide) : keep0 (sFz i g) := fun env e z => (k _ _ z).trans (fz0 h)
theorem kp_fzA {i : Nat} {g : Sx} (k : keep0 g) (h : i ≠ 0 := by decide) : keep0 (sFzA i g) := fun env e z => by
  obtain ⟨o, z1, z2⟩ := Option.map_eq_some_iff.mp z
  cases o with
  | nx e2 =>
    cases z2
    exact (fz0 h).trans (k _ _ z1)
  | rt d => cases z2
theorem kp_st {i : Nat} {f1 f2 : Nv → Option PyData} {q : PyData → PyData → PyData → Option PyData} (h : i ≠ 0 := by decide) : keep0 (sSt i f1 f2 q) := fun env e z => by
  obtain ⟨d, z1, z⟩ := Option.bind_eq_some_iff.mp z
  obtain ⟨d2, z2, z⟩ := Option.bind_eq_some_iff.mp z
  obtain ⟨d3, z3, z⟩ := Option.bind_eq_some_iff.mp z
  obtain ⟨o', z4, z⟩ := Option.map_eq_some_iff.mp z
  cases z
  exact set0 h
theorem kp_ret {f : Nv → Option PyData} : keep0 (sRet f) := fun env e z => by
  obtain ⟨d, z1, z2⟩ := Option.map_eq_some_iff.mp z
  cases z2
theorem kp_nil : keep0 sNil := fun env e z => by
  cases z
  rfl
theorem kp_cons {g g2 : Sx} (k : keep0 g) (k2 : keep0 g2) : keep0 (sCons g g2) := fun env e z => by
  obtain ⟨o, z1, z2⟩ := Option.bind_eq_some_iff.mp z
  cases o with
  | nx e2 => exact (k2 _ _ z2).trans (k _ _ z1)
  | rt d => cases z2
theorem kp_if {c : Nv → Option Bool} {g g2 : Sx} (k : keep0 g) (k2 : keep0 g2) : keep0 (sIf c g g2) := fun env e z => by
  obtain ⟨b, z1, z2⟩ := Option.bind_eq_some_iff.mp z
  cases b with
  | true => exact k _ _ z2
  | false => exact k2 _ _ z2
theorem kp_for {fi : Nv → Option (List PyData)} {b : Bd} {g : Sx} (kb : keepB b) (k : keep0 g) : keep0 (sFor fi b g) := fun env e z => by
  obtain ⟨ds, z1, z2⟩ := Option.bind_eq_some_iff.mp z
  clear z z1
  induction ds generalizing env with
  | nil =>
    cases z2
    rfl
  | cons d ds ih =>
    obtain ⟨e1, w1, w2⟩ := Option.bind_eq_some_iff.mp (show (b d env).bind _ = some (Out.nx e) from z2)
    obtain ⟨o, w3, w4⟩ := Option.bind_eq_some_iff.mp w2
    cases o with
    | nx e2 => exact (ih _ w4).trans ((k _ _ w3).trans (kb _ _ _ w1))
    | rt d => cases w4
theorem kb_nm {i : Nat} (h : i ≠ 0 := by decide) : keepB (bNm i) := fun d env e z => by
  cases z
  exact set0 h
theorem kb_tup {n : Nat} {bs : List PyData → Nv → Option Nv} (h : ∀ ds env e, bs ds env = some e → e[0]? = env[0]?) : keepB (bTup n bs) := fun d env e z => by
  cases d with
  | tuple ds =>
    have z : (if Nat.beq ds.length n then bs ds env else none) = some e := z
    split at z
    · exact h _ _ _ z
    · cases z
  | none => cases z
  | bool _ => cases z
  | int _ => cases z
  | str _ => cases z
  | list _ => cases z
  | dict _ => cases z
theorem ks_nil : ∀ ds env e, bsNil ds env = some e → e[0]? = env[0]? := fun ds env e z => by
  cases ds with
  | nil =>
    cases z
    rfl
  | cons _ _ => cases z
theorem ks_cons {b : Bd} {bs : List PyData → Nv → Option Nv} (k : keepB b) (h : ∀ ds env e, bs ds env = some e → e[0]? = env[0]?) : ∀ ds env e, bsCons b bs ds env = some e → e[0]? = env[0]? := fun ds env e z => by
  cases ds with
  | nil => cases z
  | cons d ds =>
    obtain ⟨e1, z1, z2⟩ := Option.bind_eq_some_iff.mp (show (b d env).bind (bs ds) = some e from z)
    exact (h _ _ _ z2).trans (k _ _ _ z1)
theorem kp_asg {f : Nv → Option PyData} {b : Bd} (k : keepB b) : keep0 (sAsg f b) := fun env e z => by
  obtain ⟨d, z1, z2⟩ := Option.bind_eq_some_iff.mp z
  obtain ⟨e2, z3, z4⟩ := Option.map_eq_some_iff.mp z2
  cases z4
  exact k _ _ _ z3
section
variable {X : Cx} {st : Stmt} {sts : List Stmt} {e a b c it tg : Expr} {f f1 f2 : Nv → Option (List PyData)} {g g2 : Nx} {pos : Pos} {i j : Nat} {js : List Nat} {x y : Str} {bd : Bd}
def nNil : Nx := fun env => some [.nx env]
def nCons (g g2 : Nx) : Nx := fun env => (g env).bind (allO fun o => match o with
  | .nx e => g2 e
  | .rt d => some [.rt d])
theorem nl_nil : PLn X [] nNil := pss_imp pss_nil fun D σ H ⟨B, p, o, Hf, env, outs, S, z, k⟩ => by
  cases z
  exact k _ List.mem_cons_self σ o Hf H S .refl
theorem nl_cons (h1 : PSn X st g) (h2 : PLn X sts g2) : PLn X (st :: sts) (nCons g g2) := pss_imp (pss_cons h1 h2) fun D σ H ⟨B, p, o, Hf, env, outs, S, z, k⟩ => by
  obtain ⟨os, z1, z2⟩ := Option.bind_eq_some_iff.mp z
  refine ⟨B, p, o, Hf, env, os, S, z1, fun out ho => ?_⟩
  obtain ⟨xs, w1, w2⟩ := allO_mem z2 ho
  cases out with
  | nx e2 => exact fun σ' o' Hf' H' S' g' => ⟨B, p, o', Hf', e2, xs, S', w1, fun q hq => (k q (w2 q hq)).mono g'⟩
  | rt d =>
    cases w1
    exact k _ (w2 _ List.mem_cons_self)
theorem nl_one (h : PSn X st g) : PLn X [st] g := pss_one h
/-- one outcome -/
theorem n_st {g : Sx} (h : PSr X (RF X.K) st g) (kp : keep0 g) : PSn X st (one1 g) := ps_imp h fun D σ H ⟨B, p, o, Hf, env, outs, S, z, k⟩ => by
  obtain ⟨out, z1, rfl⟩ := Option.map_eq_some_iff.mp z
  have k1 := k out List.mem_cons_self
  refine ⟨upd B p o, Hf, env, out, S.st, z1, ?_⟩
  cases out with
  | nx e2 => exact fun σ' Hf' H' S' g' => k1 σ' o Hf' H' (S.next S' g' (kp _ _ z1)) (grow_up g')
  | rt d => exact fun v Hf' H' s1 s2 g' r => k1 v o Hf' H' S.po (g'.new p S.hf (by rw [upd_same]; exact fun w => nomatch w)) s1 s2 (grow_up g') r
theorem n_no : PSn X st (fun _ => some []) ∨ True := .inr trivial
def nRet (f : Nv → Option (List PyData)) : Nx := fun env => (f env).map fun ds => ds.map Out.rt
theorem n_ret (h : PN X e f) : PSn X (.Return (some e) pos) (nRet f) := ps_imp (ps_ret h) fun D σ H ⟨B, p, o, Hf, env, outs, S, z, k⟩ => by
  obtain ⟨ds, z1, rfl⟩ := Option.map_eq_some_iff.mp z
  exact ⟨B, p, o, Hf, env, ds, S, z1, fun d hd v o' Hf' H' S' g' r => k (.rt d) (List.mem_map.mpr ⟨d, hd, rfl⟩) v o' Hf' H' S'.po S'.hf S'.st.sub S'.st.base g' r⟩
def nSet (i : Nat) (f : Nv → Option (List PyData)) : Nx := fun env => (f env).map fun ds => ds.map fun d => .nx (env.set i (.fr d))
theorem NSt.set {K : PySem.W.Frag} {B Hf H : Hp} {p : Addr} {o : HO} {env : Nv} {σ : L2.St} {d : PyData} {v : V} (S : NSt K B p o Hf env σ H) (h : i ≠ 0) (r : Rp K Hf d v) : NSt K B p o Hf (env.set i (.fr d)) (σ.set i (some v)) H :=
  ⟨S.bp, S.po, S.hf, set_fr S.st r, (set0 h).trans S.c0⟩
theorem n_set {pos' : Pos} (hi0 : i ≠ 0) (hN : X.N.Nodup) (hi : X.N[i]? = some x) (hx : Loc X.env.scope x) (h : PN X e f) (hs : swapsWith e (some (.Name x pos')) pos.line X.env = pure false := by rfl)
    (hf : X.fn x = true ∨ X.env.scope.names.lookup x = some .local := by first | exact .inl rfl | exact .inr rfl | assumption) : PSn X (.Assign [.Name x pos'] e pos) (nSet i f) := ps_imp (ps_set hN hi hx h hs hf) fun D σ H ⟨B, p, o, Hf, env, outs, S, z, k⟩ => by
  obtain ⟨ds, z1, rfl⟩ := Option.map_eq_some_iff.mp z
  exact ⟨B, p, o, Hf, env, ds, S, z1, fun d hd v o' Hf' H' S' g' r => k (.nx (env.set i (.fr d))) (List.mem_map.mpr ⟨d, hd, rfl⟩) _ o' Hf' H' (S'.set hi0 r) g'⟩
def nPar2 (i j : Nat) (f1 f2 : Nv → Option (List PyData)) : Nx := fun env => (f1 env).bind (allO fun d1 => (f2 env).map fun ds => ds.map fun d2 => .nx ((env.set i (.fr d1)).set j (.fr d2)))
theorem n_par2 {px py pt pt2 : Pos} {kt k2 : Nat} (h1 : i ≠ 0) (h2 : j ≠ 0) (hc : X.calm = true) (hN : X.N.Nodup) (hi : X.N[i]? = some x) (hj : X.N[j]? = some y) (hij : i ≠ j) (hx : X.env.scope.names.lookup x = some .local) (hy : X.env.scope.names.lookup y = some .local) (ha : PN X a f1) (hb : PN X b f2)
    (hw : swappedStores [.Tuple [.Name x px, .Name y py] kt pt] (.Tuple [a, b] k2 pt2) X.env = pure (some [x, y])) (hs : swapsWithSole [.Tuple [.Name x px, .Name y py] kt pt] (.Tuple [a, b] k2 pt2) pos.line X.env = pure false := by rfl)
    (hs1 : starEach [a, b] X.env = (false, eval a X.env) :: starEach [b] X.env := by rfl) (hs2 : starEach [b] X.env = (false, eval b X.env) :: starEach [] X.env := by rfl) :
    PSn X (.Assign [.Tuple [.Name x px, .Name y py] kt pt] (.Tuple [a, b] k2 pt2) pos) (nPar2 i j f1 f2) :=
  ps_imp (ps_par hc hN hi hj hij hx hy (pa_cons ha (pa_cons hb pa_nil hs2) hs1) hw hs) fun D σ H ⟨B, p, o, Hf, env, outs, S, z, k⟩ => by
    obtain ⟨ds, z1, z2⟩ := Option.bind_eq_some_iff.mp z
    refine ⟨B, p, o, Hf, env, ds, S, z1, fun d1 hd1 v1 o1 Hf1 H1 S1 g1 r1 => ?_⟩
    obtain ⟨xs, w1, w2⟩ := allO_mem z2 hd1
    obtain ⟨es, w3, rfl⟩ := Option.map_eq_some_iff.mp w1
    exact ⟨B, p, o1, Hf1, env, es, S1, w3, fun d2 hd2 v2 o2 Hf2 H2 S2 g2 r2 => ⟨v1, v2, rfl, k _ (w2 _ (List.mem_map.mpr ⟨d2, hd2, rfl⟩)) _ o2 Hf2 H2 ((S2.set h1 (Rp.mono g2.same _ _ r1)).set h2 r2) (g1.tr g2)⟩⟩
def nAsg (f : Nv → Option (List PyData)) (b : Bd) : Nx := fun env => (f env).bind (allO fun d => (b d env).map fun e => [.nx e])
theorem n_asg (kb : keepB bd) (he : PN X e f) (hg : PGr X tg js bd) (hs : swapsWithSole [tg] e pos.line X.env = pure false := by rfl) (hw : swappedStores [tg] e X.env = pure none := by rfl)
    (h1 : (assignEach [tg] X.env).map (·.2) = [assign tg X.env] := by rfl) : PSn X (.Assign [tg] e pos) (nAsg f bd) := ps_imp (ps_asg he hg hs hw h1) fun D σ H ⟨B, p, o, Hf, env, outs, S, z, k⟩ => by
  obtain ⟨ds, z1, z2⟩ := Option.bind_eq_some_iff.mp z
  refine ⟨B, p, o, Hf, env, ds, S, z1, fun d hd v o' Hf' H' S' g' r => ?_⟩
  obtain ⟨xs, w1, w2⟩ := allO_mem z2 hd
  obtain ⟨e2, w3, rfl⟩ := Option.map_eq_some_iff.mp w1
  exact ⟨upd B p o', Hf', env, d, e2, S'.st, r, w3, fun σ' S2 _ _ => k _ (w2 _ List.mem_cons_self) σ' o' Hf' H' ⟨S'.bp, S'.po, S'.hf, S2, (kb _ _ _ w3).trans S'.c0⟩ g'⟩
def nIfS (c : Nv → Option (List Bool)) (g g2 : Nx) : Nx := fun env => (c env).bind (allO fun b => if b then g env else g2 env)
theorem n_ifS {gb : Nv → Option (List Bool)} {s1 s2 : List Stmt} (hc : PTn X c gb) (ha : PLn X s1 g) (hb : PLn X s2 g2) : PSn X (.If c s1 s2 pos) (nIfS gb g g2) := ps_imp (ps_if hc ha hb) fun D σ H ⟨B, p, o, Hf, env, outs, S, z, k⟩ => by
  obtain ⟨bs, z1, z2⟩ := Option.bind_eq_some_iff.mp z
  refine ⟨B, p, o, Hf, env, bs, S, z1, fun q hq o' Hf' H' S' g' => ?_⟩
  obtain ⟨xs, w1, w2⟩ := allO_mem z2 hq
  cases q with
  | true => exact iteT ⟨B, p, o', Hf', env, xs, S', w1, fun r hr => (k r (w2 r hr)).mono g'⟩
  | false => exact iteF ⟨B, p, o', Hf', env, xs, S', w1, fun r hr => (k r (w2 r hr)).mono g'⟩
/-- a loop -/
def forN (b : Bd) (g : Nx) : List PyData → Nx
  | [], env => some [.nx env]
  | d :: ds, env => (b d env).bind fun e1 => (g e1).bind (allO fun o => match o with
    | .nx e2 => forN b g ds e2
    | .rt r => some [.rt r])
def nFor (fi : Nv → Option (List PyData)) (b : Bd) (g : Nx) : Nx := fun env => (fi env).bind fun ds => forN b g ds env
theorem st_weak {K : PySem.W.Frag} {B Hf H : Hp} {p : Addr} {o : HO} {env : Nv} {σ : L2.St} (S : StOk K (upd B p o) Hf env σ H) (hb : B p = none) : StOk K B Hf env σ H := by
  refine ⟨S.sub, fun a w e => S.base a w (by rw [upd_ne (fun z => by rw [z, hb] at e; cases e)]; exact e), S.len, fun i c e => ?_, S.apart⟩
  have h0 := S.cell i c e
  cases c with
  | un => trivial
  | raw v => exact h0
  | fr d => exact h0
  | ow d =>
    obtain ⟨r, k1, k2, k3, k4⟩ := h0
    have ne : r ≠ p := fun w => by
      rw [w, upd_same] at k2
      cases k2
    rw [upd_ne ne] at k2
    exact ⟨r, k1, k2, k3, k4⟩
theorem NSt.same {K : PySem.W.Frag} {B Hf Hf' H H' : Hp} {p : Addr} {o : HO} {env : Nv} {σ : L2.St} (S : NSt K B p o Hf env σ H) (S' : StOk K B Hf' env σ H') (s : Same H H') (g : Grow Hf Hf' H) : NSt K B p o Hf' env σ H' := by
  refine ⟨S.bp, S.po, g.new p S.hf (by rw [S.hp]; exact fun w => nomatch w), ⟨S'.sub, fun a w e => ?_, S'.len, fun i c e => ?_, S'.apart⟩, S.c0⟩
  · by_cases ea : a = p
    · subst ea
      rw [upd_same] at e
      cases e
      exact s a _ S.hp
    · rw [upd_ne ea] at e
      exact S'.base a w e
  · have h0 := S.st.cell i c e
    have h1 := S'.cell i c e
    cases c with
    | un => trivial
    | raw v => exact h1
    | fr d => exact h1
    | ow d =>
      obtain ⟨r, k1, k2, k3, k4⟩ := h1
      obtain ⟨r0, j1, j2, _, _⟩ := h0
      cases j1.symm.trans k1
      exact ⟨r, k1, j2, k3, k4⟩
theorem n_for {fi : Nv → Option (List PyData)} {body : List Stmt} (kb : keepB bd) (hp : PassesOwn (model X.prog X.w) X.A X.env X.xe) (hc : X.calm = true) (hi : PIr X tg it fi) (hg : PGr X tg js bd) (hb : PLn X body g) (hs : ∀ x, foldedSetIterable it X.env x = pure x := by intro _; rfl) : PSn X (.For tg it body [] pos) (nFor fi bd g) :=
  ps_imp (ps_for hp hc hi hg hb hs) fun D σ H ⟨B, p, o, Hf, env, outs, S, z, k⟩ => by
    obtain ⟨ds, z1, z2⟩ := Option.bind_eq_some_iff.mp z
    refine ⟨B, Hf, env, ds, st_weak S.st S.bp, z1, fun J Hf0 H0 S0 s0 g0 Wd => ?_⟩
    have N0 := S.same S0 s0 g0
    have G0 : Grow Hf Hf0 B := g0.toB (st_weak S.st S.bp).base
    refine ⟨fun i m σ H => m = ds.length - i ∧ i ≤ ds.length ∧ ∃ Hf' env' o' outs', NSt X.K B p o' Hf' env' σ H ∧ Grow Hf0 Hf' B ∧ forN bd g (ds.drop i) env' = some outs' ∧ ∀ r ∈ outs', outN X.K D B p Hf' r, ⟨_, rfl, Nat.zero_le _, Hf0, env, o, outs, N0, .refl, z2, fun r hr => (k r hr).mono G0⟩, ?_⟩
    rintro i m σ H ⟨rfl, hi, Hf1, env1, o1, outs1, S1, g1, w1, k1⟩
    have Sw := st_weak S1.st S1.bp
    cases e : ds.drop i with
    | nil =>
      rw [e] at w1
      cases w1
      have ei := drop_nil e hi
      subst ei
      exact .inl ⟨Wd.stop H Hf1 g1.same Sw.sub Sw.base, k1 _ List.mem_cons_self σ o1 Hf1 H S1 .refl⟩
    | cons d r =>
      rw [e] at w1
      obtain ⟨hd, hr, hlt⟩ := drop_some e
      obtain ⟨e1, z3, z4⟩ := Option.bind_eq_some_iff.mp (show (bd d env1).bind _ = some outs1 from w1)
      obtain ⟨os, z5, z6⟩ := Option.bind_eq_some_iff.mp z4
      refine .inr ⟨Wd.go i H Hf1 hlt g1.same Sw.sub Sw.base, fun σ' H' => ∃ Hf' env' o' outs', NSt X.K B p o' Hf' env' σ' H' ∧ Grow Hf0 Hf' B ∧ forN bd g (ds.drop (i + 1)) env' = some outs' ∧ ∀ r ∈ outs', outN X.K D B p Hf' r, fun σ' H' h => ⟨_, by omega, rfl, hlt, h⟩, fun x H' y => ?_⟩
      obtain ⟨Hf3, s3, g3, sb3, r3⟩ := Wd.yld i H Hf1 d x H' hd g1.same Sw.sub Sw.base y
      have N3 : NSt X.K B p o1 Hf3 env1 σ H' := S1.same (Sw.grow sb3 s3 g3) s3 g3
      refine ⟨upd B p o1, Hf3, env1, d, e1, N3.st, r3, z3, fun σ2 S2 _ _ => ⟨B, p, o1, Hf3, e1, os, ⟨N3.bp, N3.po, N3.hf, S2, (kb _ _ _ z3).trans N3.c0⟩, z5, fun q hq => ?_⟩⟩
      have gg : Grow Hf0 Hf3 B := g1.tr (g3.toB Sw.base)
      obtain ⟨xs, v1, v2⟩ := allO_mem z6 hq
      cases q with
      | nx e2 => exact fun σ' o' Hf' H' S' g' => ⟨Hf', e2, o', xs, S', gg.tr g', by rw [hr]; exact v1, fun r hr => (k1 r (v2 r hr)).mono ((g3.toB Sw.base).tr g')⟩
      | rt dd =>
        cases v1
        exact (k1 _ (v2 _ List.mem_cons_self)).mono (g3.toB Sw.base)
end
end Q7

-- part Qs
set_option Elab.async false
set_option linter.all false
set_option maxRecDepth 100000
/-! Qs: defs that draw from the pot: promises, calls. -/
namespace Q7
open PySem PySem.Spec PyProof.Rows L2
open C8 (Cal pe_c)

/-- the promise of a def whose first parameter is the pot: one of the outcomes -/
def spN (K : PySem.W.Frag) (G : Addr → List PyData → Option (List PyData)) : Sp := fun vs H Q _ => ∃ p o Hf ds outs us, vs = .ref p :: us ∧ H p = some o ∧ PotO o ∧ Hf p = none ∧ Sub Hf H ∧ RpA K Hf ds us ∧ G p ds = some outs ∧
  ∀ d ∈ outs, ∀ v o' Hf' H', PotO o' → Hf' p = none → H' p = some o' → Sub Hf' H' → (∀ a u, a ≠ p → H a = some u → H' a = some u) → Grow Hf Hf' H → Rp K Hf' d v → Q v H'
theorem NSt.after {K : PySem.W.Frag} {B Hf Hf' H H' : Hp} {p : Addr} {o o' : HO} {env : Nv} {σ : L2.St} (S : NSt K B p o Hf env σ H) (po : PotO o') (hf : Hf' p = none) (hp : H' p = some o') (sb : Sub Hf' H') (s : ∀ a u, a ≠ p → H a = some u → H' a = some u) (g : Grow Hf Hf' H) : NSt K B p o' Hf' env σ H' := by
  refine ⟨S.bp, po, hf, ⟨sb, fun a u e => ?_, S.st.len, fun i c e => ?_, S.st.apart⟩, S.c0⟩
  · by_cases ea : a = p
    · subst ea
      rw [upd_same] at e
      cases e
      exact hp
    · rw [upd_ne ea] at e
      exact s a u ea (S.st.base a u (by rw [upd_ne ea]; exact e))
  · have hc := S.st.cell i c e
    cases c with
    | un => trivial
    | raw v => exact hc
    | fr d =>
      obtain ⟨v, e1, r⟩ := hc
      exact ⟨v, e1, Rp.mono g.same _ _ r⟩
    | ow d =>
      obtain ⟨q, k1, k2, k3, k4⟩ := hc
      have ne : q ≠ p := fun w => by
        rw [w, upd_same] at k2
        cases k2
      obtain ⟨oq, hq⟩ : ∃ oq, H q = some oq := by
        cases e2 : H q with
        | none => exact (k4.there e2).elim
        | some oq => exact ⟨oq, rfl⟩
      refine ⟨q, k1, ?_, g.new q k3 (by rw [hq]; exact fun w => nomatch w), k4.mono g.same ((s q oq ne hq).trans hq.symm)⟩
      rw [upd_ne ne] at k2 ⊢
      exact k2
def potC : Cell → Option Addr
  | .raw (.ref p) => some p
  | _ => none
def potA (env : Nv) : Option Addr := (env[0]?).bind potC
def nCall (fs : Nv → Option (List PyData)) (G : Addr → List PyData → Option (List PyData)) : Nv → Option (List PyData) := fun env => (potA env).bind fun p => (fs env).bind (G p)
section
variable {X : Cx} {e0 : Expr} {es : List Expr} {fs : Nv → Option (List PyData)} {G : Addr → List PyData → Option (List PyData)} {x : Str} {p pos : Pos} {j k : Nat}
theorem n_call (c : Cal X.prog X.w X.K X.mg X.base k x (spN X.K G) []) (hr : Room j X.A) (hk : k ≤ j) (hg : Gl X x) (h0 : PE X e0 (tVar 0)) (ha : PAf X es fs) (hdb : (x == ("__debug__" : Str)) = false := by decide)
    (he : starEach (e0 :: es) X.env = (false, eval e0 X.env) :: starEach es X.env := by rfl) (hpl : (backTo pos (starEach es X.env)).any (·.1) = false := by rfl) : PN X (.Call (.Name x p) (e0 :: es) [] pos) (nCall fs G) :=
  pe_imp (pe_c c hr hk hg (pa_cons h0 ha he) hdb he hpl) fun σ H Q ⟨B, p, o, Hf, env, outs, S, z, q⟩ => by
    obtain ⟨p', z0, z1⟩ := Option.bind_eq_some_iff.mp z
    obtain ⟨ds, z2, z3⟩ := Option.bind_eq_some_iff.mp z1
    have ep : p' = p := by
      unfold potA at z0
      rw [S.c0] at z0
      exact (Option.some.inj z0).symm
    subst ep
    refine ⟨.ref p', S.st.cell 0 _ S.c0, upd B p' o, Hf, env, ds, S.st, z2, fun vs Hf1 H1 S1 s1 g1 r1 => ?_⟩
    have gg := g1.toB S.st.base
    have N1 := S.next S1 gg rfl
    show spN X.K G ((V.ref p' :: vs) ++ []) H1 Q C8.E0
    rw [List.append_nil]
    refine ⟨p', o, Hf1, ds, outs, vs, rfl, N1.hp, S.po, N1.hf, S1.sub, r1, z3, fun d hd v o' Hf' H' po hf hp sb s g r => ?_⟩
    exact q d hd v o' Hf' H' (N1.after po hf hp sb s g) ((grow_up gg).tr (grow_up (g.toB S1.base))) r
/-- the names' holdings at the entry -/
def startP (n : Nat) (p : Addr) (ds : List PyData) : Nv := .raw (.ref p) :: startN (n - 1) ds
def rts : List Out → Option (List PyData)
  | [] => some []
  | .rt d :: r => (rts r).map (d :: ·)
  | .nx _ :: _ => none
theorem rts_mem : ∀ {os : List Out} {ds : List PyData} {o : Out}, rts os = some ds → o ∈ os → ∃ d, o = .rt d ∧ d ∈ ds
  | [], _, _, _, h => by cases h
  | .rt d :: r, ds, o, z, h => by
    obtain ⟨es, z1, rfl⟩ := Option.map_eq_some_iff.mp (show (rts r).map (d :: ·) = some ds from z)
    rcases List.mem_cons.mp h with rfl | h
    · exact ⟨d, rfl, List.mem_cons_self⟩
    · obtain ⟨d2, e1, e2⟩ := rts_mem z1 h
      exact ⟨d2, e1, List.mem_cons_of_mem _ e2⟩
  | .nx _ :: _, _, _, z, _ => by cases z
def runN (n m : Nat) (g : Nx) (p : Addr) (ds : List PyData) : Option (List PyData) := if Nat.beq ds.length m then (g (startP n p ds)).bind rts else none
theorem startP_ok {K : PySem.W.Frag} {Hf H : Hp} {x : Str} {N : List Str} {ds : List PyData} {vs : List V} {p : Addr} (sb : Sub Hf H) (r : RpA K Hf ds vs) : StOk K H Hf (startP (x :: N).length p ds) (L2.start (x :: N) (.ref p :: vs)) H := by
  have S := start_ok (N := N) sb r
  have e : L2.start (x :: N) (.ref p :: vs) = some (.ref p) :: L2.start N vs := by
    unfold L2.start
    simp
  rw [e]
  refine ⟨sb, Same.refl H, congrArg (· + 1) S.len, fun i c ec => ?_, fun i j q d d' ne e1 e2 e3 e4 => ?_⟩
  · cases i with
    | zero =>
      cases ec
      exact rfl
    | succ i => exact S.cell i c ec
  · cases i with
    | zero => cases e1
    | succ i =>
      cases j with
      | zero => cases e2
      | succ j => exact S.apart i j q d d' (fun w => ne (congrArg (· + 1) w)) e1 e2 e3 e4
theorem fn_N {P : Program} {w : World} {K : PySem.W.Frag} {mg : Str → Option Value} {base : Heap} {params : Arguments} {body : List Stmt} {scope : Scope} {f : Addr} {fd : FuncData} {x0 : Str} {N ps : List Str} {k : Nat} {g : Nx} (F : FunD K x x params body scope [] [] f fd) (hm : mg x = some (.ref f)) (b : Binds K fd (x0 :: ps) []) (S : FnScope (x0 :: N) (x0 :: ps) scope)
    (hb : ∀ (cdv : Value) (A : Around) (outer : List Env) (s : Shared) (H : Hp) (E : XK), Room k (cxB P w K mg base (x0 :: N) x scope f cdv A outer s H E).A → PLn (cxB P w K mg base (x0 :: N) x scope f cdv A outer s H E) body g) : Cal P w K mg base (k + 1) x (spN K (runN (x0 :: N).length ps.length g)) [] := by
  have len : ∀ vs H Q E, spN K (runN (x0 :: N).length ps.length g) vs H Q E → vs.length = (x0 :: ps).length := fun vs H Q E ⟨p, o, Hf, ds, outs, us, e, _, _, _, _, r, z, _⟩ => by
    unfold runN at z
    split at z
    · rename_i q
      rw [e, List.length_cons, r.length, List.length_cons]
      exact congrArg (· + 1) (Nat.eq_of_beq_eq_true q)
    · cases z
  refine ⟨f, fd, x0 :: ps, [], F.ok S len (fun cdv A outer s H vs Q E hr h => ?_), hm, F.kp, b, .nil⟩
  refine ⟨_, PSs.nox (hb cdv A outer s H E hr), ?_⟩
  obtain ⟨p, o, Hf, ds, outs, us, rfl, hp, po, hf, sb, r, z, kk⟩ := h
  unfold runN at z
  split at z
  · obtain ⟨os, z1, z2⟩ := Option.bind_eq_some_iff.mp z
    have eB : upd (fun a => if a = p then none else H a) p o = H := by
      funext a
      by_cases ea : a = p
      · subst ea
        rw [upd_same, hp]
      · rw [upd_ne ea, if_neg ea]
    refine ⟨fun a => if a = p then none else H a, p, o, Hf, _, os, ⟨if_pos rfl, po, hf, by rw [eB]; exact startP_ok sb r, rfl⟩, z1, fun out ho => ?_⟩
    obtain ⟨d, rfl, hd⟩ := rts_mem z2 ho
    refine fun v o' Hf' H' po' hf' sb' s' g' r' => kk d hd v o' Hf' H' po' hf' (s' p o' upd_same) sb' (fun a u ne e => s' a u (by rw [upd_ne ne, if_neg ne]; exact e)) ⟨g'.same, fun a fa na => ?_⟩ r'
    by_cases ea : a = p
    · rw [ea]
      exact hf'
    · exact g'.new a fa (by rw [if_neg ea]; exact na)
  · cases z
end
end Q7

-- part Qw
set_option Elab.async false
set_option linter.all false
set_option maxRecDepth 100000
/-! Qw: calls by keywords alone; defs whose promise asks for no guards. -/
namespace Q7
open PySem PySem.Spec PyProof.Rows L2
open C8 (Cal pe_c)
/-- a def that is called by keywords alone, the last parameter first -/
structure CalK (P : Program) (w : World) (K : PySem.W.Frag) (mg : Str → Option Value) (base : Heap) (k : Nat) (x : Str) (sp : Sp) (ks : List Str) : Prop where
  ex : ∃ (f : Addr) (fd : FuncData) (ps : List Str), FnOk P w K mg base C8.CX0 k f fd ps sp ∧ mg x = some (.ref f) ∧ PySem.W.keepIn K (.ref f) = true ∧
    ∀ (s : Shared) (ws : List Value), K.In s.heap → ws.length = ps.length → BindsTo s fd ⟨[], ks.zip ws⟩ (ps.zip ws.reverse)
theorem vals_rev : ∀ {vs : List V} {us : List Value}, Vals vs us → Vals vs.reverse us.reverse
  | _, _, .nil => .nil
  | _, _, .cons r rv => by
    rw [List.reverse_cons, List.reverse_cons]
    exact (vals_rev rv).append (.cons r .nil)
section
variable {X : Cx} {k j : Nat} {x : Str} {sp : Sp} {ks : List Str} {p pos : Pos} {kws : List Keyword} {tk : TA}
theorem pe_ck (c : CalK X.prog X.w X.K X.mg X.base k x sp ks) (hr : Room j X.A) (hk : k ≤ j) (hg : Gl X x) (hkw : PK X kws tk) (hdb : (x == ("__debug__" : Str)) = false := by decide)
    (hall : (backToKw pos (keywordEach kws X.env)).all (·.1.isSome) = true := by rfl) (hks : (backToKw pos (keywordEach kws X.env)).filterMap (·.1) = ks := by rfl)
    (hpl : ((backTo pos (starEach [] X.env)).any (·.1) || (backToKw pos (keywordEach kws X.env)).any (·.1.isNone)) = false := by rfl) :
    PE X (.Call (.Name x p) [] kws pos) (fun σ H Q => tk σ H fun zs H2 => sp zs.reverse H2 Q C8.E0) := by
  obtain ⟨f, fd, ps, F, hm, kp, b⟩ := c.ex
  refine ⟨fun pins s σ H Q I h => ?_⟩
  refine wpAny_Call_Name_kw (ld_glob I hg hm ?_ hdb)
  refine PySem.W.callWith_KW0 (h₀ := X.base) I.ok.mod.kin kp hall ?_ hpl
  refine thn (hkw.run pos pins s σ H _ I h) fun ws s2 ⟨zs, H2, I2, rz, q2⟩ => ⟨I2.kIn, ?_⟩
  rw [hks]
  have r2 := vals_rev rz
  have hl : ws.length = ps.length := by
    have := F.len _ _ _ _ q2
    rw [List.length_reverse, rz.length] at this
    exact this
  refine wpAny_call (codeAny_mono (F.run X.A X.stack s2 H2 ⟨[], ks.zip ws⟩ ws.reverse zs.reverse Q C8.E0 (hr.mono hk) I2.env0 (b s2 ws I2.kIn hl) r2 q2) fun r s' hq => ?_)
  cases r with
  | error e => exact C8.pass0 (E := C8.E0) pins σ H2 s2 e s' I2 hq
  | ok fl =>
    cases fl with
    | ret u => exact I2.after hq
    | next => exact False.elim hq
    | brk => exact False.elim hq
    | cont => exact False.elim hq
abbrev PKf (X : Cx) (kws : List Keyword) (f : Nv → Option (List PyData)) : Prop := PK X kws (tA X.K f)
theorem pk_imp {t t' : TA} (h : PK X kws t) (k : ∀ σ H Q, t' σ H Q → t σ H Q) : PK X kws t' := ⟨fun pos pins s σ H Q I q => h.run pos pins s σ H Q I (k σ H Q q)⟩
variable {e : Expr} {f : Nv → Option PyData} {fs : Nv → Option (List PyData)} {nm : Option Str} {kpos : Pos}
theorem k_nil : PKf X [] aNil := pk_imp pk_nil fun σ H Q ⟨B, Hf, env, ds, S, z, k⟩ => by
  cases z
  exact k [] Hf H S (Same.refl H) .refl rfl
theorem k_cons (ha : PF X e f) (hr : PKf X kws fs) : PKf X (⟨nm, e, kpos⟩ :: kws) (aCons f fs) := pk_imp (pk_cons ha hr) fun σ H Q ⟨B, Hf, env, ds, S, z, k⟩ => by
  obtain ⟨d, z1, z2⟩ := Option.bind_eq_some_iff.mp z
  obtain ⟨dr, z3, z4⟩ := Option.bind_eq_some_iff.mp z2
  cases z4
  exact ⟨B, Hf, env, d, S, z1, fun x Hf1 H1 S1 s1 g1 r1 => ⟨B, Hf1, env, dr, S1, z3, fun vs Hf2 H2 S2 s2 g2 r2 => k _ Hf2 H2 S2 (s1.trans s2) (g1.trans s1 g2) (.cons (Rp.mono (g2.same) _ _ r1) r2)⟩⟩
def fCallK (fs : Nv → Option (List PyData)) (F : List PyData → Option PyData) : Nv → Option PyData := fun env => (fs env).bind fun ds => F ds.reverse
theorem rpA_snoc {K : PySem.W.Frag} {Hf : Hp} {d : PyData} {v : V} : ∀ {ds : List PyData} {vs : List V}, RpA K Hf ds vs → Rp K Hf d v → RpA K Hf (ds ++ [d]) (vs ++ [v])
  | [], vs, h, r => by
    rw [show vs = [] from h]
    exact .cons r rfl
  | c :: ds, _, ⟨x, ys, rfl, rx, ry⟩, r => .cons rx (rpA_snoc ry r)
theorem rpA_rev {K : PySem.W.Frag} {Hf : Hp} : ∀ {ds : List PyData} {vs : List V}, RpA K Hf ds vs → RpA K Hf ds.reverse vs.reverse
  | [], vs, h => by
    rw [show vs = [] from h]
    rfl
  | c :: ds, _, ⟨x, ys, rfl, rx, ry⟩ => by
    rw [List.reverse_cons, List.reverse_cons]
    exact rpA_snoc (rpA_rev ry) rx
variable {R : Md} {F : List PyData → Option PyData}
theorem c_callK (mo : Bk R) (c : CalK X.prog X.w X.K X.mg X.base k x (spF X.K R F) ks) (hr : Room j X.A) (hk : k ≤ j) (hg : Gl X x) (ha : PKf X kws fs) (hdb : (x == ("__debug__" : Str)) = false := by decide)
    (hall : (backToKw pos (keywordEach kws X.env)).all (·.1.isSome) = true := by rfl) (hks : (backToKw pos (keywordEach kws X.env)).filterMap (·.1) = ks := by rfl)
    (hpl : ((backTo pos (starEach [] X.env)).any (·.1) || (backToKw pos (keywordEach kws X.env)).any (·.1.isNone)) = false := by rfl) : PE X (.Call (.Name x p) [] kws pos) (tX X.K R (fCallK fs F)) :=
  pe_imp (pe_ck c hr hk hg ha hdb hall hks hpl) fun σ H Q ⟨B, Hf, env, d, S, z, q⟩ => by
    obtain ⟨ds, z1, z2⟩ := Option.bind_eq_some_iff.mp z
    refine ⟨B, Hf, env, ds, S, z1, fun vs Hf1 H1 S1 s1 g1 r1 => ?_⟩
    show spF X.K R F vs.reverse H1 Q C8.E0
    exact ⟨Hf1, ds.reverse, d, S1.sub, rpA_rev r1, z2, fun v Hf' H' sb s' g' r => q v Hf' H' (S1.grow sb s' g') (s1.trans s') (g1.trans s1 g') (mo.to s1 r)⟩
end
/-! ### no guards -/
structure FnG (P : Program) (w : World) (K : PySem.W.Frag) (mg : Str → Option Value) (base : Heap) (k : Nat) (f : Addr) (fd : FuncData) (ps : List Str) (sp : Sp) : Prop where
  len : ∀ vs H Q E, sp vs H Q E → vs.length = ps.length
  run : ∀ (A : Around) (outer : List Env) (s : Shared) (H : Hp) (args : Args) (us : List Value) (vs : List V) (Q : VK) (E : XK), A.guards = some [] → Room k A → Env0 P w K mg base A outer s H → BindsTo s fd args (ps.zip us) → Vals vs us → sp vs H Q E →
    codeAny (model P w) A (.call (.ref f) args) (CR C8.CX0 outer P w H s Q E) s
structure CalG (P : Program) (w : World) (K : PySem.W.Frag) (mg : Str → Option Value) (base : Heap) (k : Nat) (x : Str) (sp : Sp) : Prop where
  ex : ∃ (f : Addr) (fd : FuncData) (ps : List Str), FnG P w K mg base k f fd ps sp ∧ mg x = some (.ref f) ∧ PySem.W.keepIn K (.ref f) = true ∧ Binds K fd ps []
section
variable {P : Program} {w : World} {K : PySem.W.Frag} {mg : Str → Option Value} {base : Heap} {x : Str} {params : Arguments} {body : List Stmt} {scope : Scope} {f : Addr} {fd : FuncData}
theorem fnG_of {N ps : List Str} {k : Nat} {sp : Sp} (F : FunD K x x params body scope [] [] f fd) (S : FnScope N ps scope) (len : ∀ vs H Q E, sp vs H Q E → vs.length = ps.length)
    (hbody : ∀ (cdv : Value) (A : Around) (outer : List Env) (s : Shared) (H : Hp) (vs : List V) (Q : VK) (E : XK), A.guards = some [] → Room k (A.deeper (envOfC x scope s.heap.objs.size f cdv)) → sp vs H Q E →
      ∃ t, PSs (cxOf C8.CX0 P w K mg base N x scope f cdv A outer s H E) body t ∧ t { nx := fun _ H' => Q .non H', rt := Q } (L2.start N vs) H) : FnG P w K mg base (k + 1) f fd ps sp := by
  obtain ⟨oc, od, dV, kV, doc, pm, an, cdv, ct, osl, rfl, lk, hcd, _, _⟩ := F.ex
  refine ⟨len, fun A outer s H args us vs Q E hg hr e0 hb r hsp => ?_⟩
  exact LamX.run_ofS lk hcd S hr e0 hb r (len _ _ _ _ hsp) fun hr' => hbody cdv A outer s H vs Q E hg hr' hsp
end
section
variable {X : Cx} {k j : Nat} {x : Str} {sp : Sp} {p pos : Pos} {e : Expr} {es : List Expr} {t : TA}
theorem pe_cG (c : CalG X.prog X.w X.K X.mg X.base k x sp) (hgd : X.A.guards = some []) (hr : Room j X.A) (hk : k ≤ j) (hg : Gl X x) (ha : PA X (e :: es) t)
    (hdb : (x == ("__debug__" : Str)) = false := by decide) (he : starEach (e :: es) X.env = (false, eval e X.env) :: starEach es X.env := by rfl) (hpl : (backTo pos (starEach es X.env)).any (·.1) = false := by rfl) :
    PE X (.Call (.Name x p) (e :: es) [] pos) (tCall sp [] C8.E0 t) := by
  obtain ⟨f, fd, ps, F, hm, kp, b⟩ := c.ex
  refine ⟨fun pins s σ H Q I h => ?_⟩
  refine wpAny_Call_Name_kw (ld_glob I hg hm ?_ hdb)
  refine PySem.W.callWith_K (h₀ := X.base) I.ok.mod.kin kp (thn (ha.run pos pins s σ H _ I h) fun us s1 ⟨vs, H1, I1, r, q⟩ => ⟨I1.kIn, ?_⟩) he hpl
  have r2 : Vals (vs ++ []) (us ++ []) := r.append .nil
  have hl : (us ++ []).length = ps.length := by rw [← r2.length]; exact F.len _ _ _ _ q
  refine wpAny_call (codeAny_mono (F.run X.A X.stack s1 H1 ⟨us, []⟩ (us ++ []) (vs ++ []) Q C8.E0 hgd (hr.mono hk) I1.env0 (b s1 us I1.kIn hl) r2 q) fun r s' hq => ?_)
  cases r with
  | error e => exact C8.pass0 (E := C8.E0) pins σ H1 s1 e s' I1 hq
  | ok fl =>
    cases fl with
    | ret u => exact I1.after hq
    | next => exact False.elim hq
    | brk => exact False.elim hq
    | cont => exact False.elim hq
theorem CalG.of (c : Cal X.prog X.w X.K X.mg X.base k x sp []) : CalG X.prog X.w X.K X.mg X.base k x sp := by
  obtain ⟨f, fd, ps, ds, F, hm, kp, b, d⟩ := c.ex
  cases d
  exact ⟨f, fd, ps, ⟨F.len, fun A outer s H args us vs Q E _ hr => F.run A outer s H args us vs Q E hr⟩, hm, kp, b⟩
end
end Q7

-- part Qt
set_option Elab.async false
set_option linter.all false
set_option maxRecDepth 100000
/-! Qt: the draw itself; picks. -/
namespace Q7
open PySem PySem.Spec PyProof.Rows L2
open C8 (Cal pe_c)

def gDraw (_ : Addr) : List PyData → Option (List PyData)
  | [.int s] => if decide (1 ≤ s) && decide (s ≤ 64) then some (rgD 0 1 s.toNat 0) else none
  | _ => none
theorem rgD_mem (s : Int) (i : Int) (h0 : 0 ≤ i) (h1 : i < s) : PyData.int i ∈ rgD 0 1 s.toNat 0 := by
  have hl : i.toNat < (rgD 0 1 s.toNat 0).length := by
    rw [rgD_len]
    omega
  have e := rgD_get 0 1 s.toNat 0 i.toNat _ (List.getElem?_eq_getElem hl)
  have e2 : (rgD 0 1 s.toNat 0)[i.toNat] = PyData.int i := by
    rw [e]
    congr 1
    omega
  exact e2 ▸ List.getElem_mem hl
theorem sc_draw : FnScope ["_law_pot_here", "_law_size", "_law_digit"] ["_law_pot_here", "_law_size"] (defScope (top 112)) := ⟨rfl, rfl, rfl, by decide +kernel, rfl, by decide +kernel, by decide +kernel⟩
section
variable {P : Program} {w : World} {K : PySem.W.Frag} {mg : Str → Option Value} {base : Heap} {f : Addr} {fd : FuncData}
theorem cal_draw (M : Mg mg) (FD : FunD K "_law_draw" "_law_draw" (defArgs (top 112)) (defBody (top 112)) (defScope (top 112)) [] [] f fd) (hm : mg "_law_draw" = some (.ref f)) : Cal P w K mg base 1 "_law_draw" (spN K gDraw) [] := by
  have len : ∀ vs H Q E, spN K gDraw vs H Q E → vs.length = ["_law_pot_here", "_law_size"].length := fun vs H Q E ⟨p, o, Hf, ds, outs, us, e, _, _, _, _, r, z, _⟩ => by
    unfold gDraw at z
    split at z
    · rw [e, List.length_cons, r.length]
      rfl
    · cases z
  refine ⟨f, fd, ["_law_pot_here", "_law_size"], [], FD.ok (k := 0) sc_draw len (fun cdv A outer s H vs Q E hr h => ?_), hm, FD.kp, FD.bindsN fun _ _ _ _ _ _ us hl => match us, hl with | [_, _], _ => rfl, .nil⟩
  have nd := sc_draw.nd
  refine ⟨_, PSs.nox (pss_cons (ps_if (pt_cmpR op_gt (pe_ix ix_list (pv 0) pe_int (fun _ _ => rfl)) pe_int (nomark _))
      (pss_cons (ps_asg (pe_callB call_divmod rfl M.b_divmod (by decide +kernel) (pa_cons (pe_ix ix_list (pv 0) pe_int (fun _ _ => rfl)) (pa_cons (pv 1) pa_nil)))
        (pg_tup rfl (pgs_cons (pg_sub (pv 0) pe_int set_list) (pgs_cons (pg_name (i := 2) nd rfl (Or.inl rfl)) pgs_nil)))) (pss_one (ps_ret (pv 2)))) pss_nil)
    (pss_cons (ps_asg (pe_op op_modN (pe_callTy call_int1 rfl M.b_int (by decide +kernel) (pa_cons (pe_op op_add (pe_op op_mul (pe_ix ix_list (pv 0) pe_int (fun _ _ => rfl)) pe_int) pe_int) pa_nil)) pe_int) (pg_sub (pv 0) pe_int set_list))
      (pss_one (ps_ret (pe_op op_modN (pe_callTy call_int1 rfl M.b_int (by decide +kernel) (pa_cons (pe_op op_fdiv (pe_op op_modN (pe_callTy call_int1 rfl M.b_int (by decide +kernel) (pa_cons (pe_op op_mul (pe_ix ix_list (pv 0) pe_int (fun _ _ => rfl)) (pe_ix ix_list (pv 0) pe_int (fun _ _ => rfl))) pa_nil)) pe_int) pe_int) pa_nil)) (pv 1)))))), ?_⟩
  obtain ⟨p, o, Hf, ds, outs, us, rfl, hp, ⟨a, b, rfl, ha⟩, hf, sb, r, z, k⟩ := h
  obtain ⟨q, rfl, h1, h64, rfl⟩ : ∃ q : Int, ds = [.int q] ∧ 1 ≤ q ∧ q ≤ 64 ∧ outs = rgD 0 1 q.toNat 0 := by
    unfold gDraw at z
    split at z
    · split at z
      · rename_i w
        obtain ⟨w1, w2⟩ := Bool.and_eq_true_iff.mp w
        cases z
        exact ⟨_, rfl, of_decide_eq_true w1, of_decide_eq_true w2, rfl⟩
      · cases z
    · cases z
  obtain ⟨u, us2, rfl, hu, hn⟩ := r
  obtain rfl : u = V.int q := hu
  obtain rfl : us2 = [] := hn
  have hL : ∀ {H' : Hp} {o : List V}, H' p = some (.lst o) → SqL K H' p o := fun h => .inl (.inl h)
  have fin : ∀ (i a' b' : Int) (H' : Hp), 0 ≤ i → i < q → 0 ≤ a' → H' p = some (.lst [.int a', .int b']) → (∀ x u, x ≠ p → H x = some u → H' x = some u) → Q (.int i) H' := fun i a' b' H' i0 i1 a0 e s => by
    refine k (.int i) (rgD_mem q i i0 i1) (.int i) _ Hf H' ⟨a', b', rfl, a0⟩ hf e (fun x u rx => ?_) s .refl rfl
    have xp : x ≠ p := fun w => by
      rw [w] at rx
      rcases rx with rx | ⟨_, rx⟩ <;> (rw [hf] at rx; cases rx)
    exact (sb x u rx).elim (fun w => .inl (s x _ xp w)) fun ⟨o, w⟩ => .inr ⟨o, s x _ xp w⟩
  refine ⟨.ref p, rfl, p, _, 0, .int a, rfl, rfl, hL hp, rfl, ⟨a, 0, rfl, rfl, ⟨_, rfl, ?_⟩⟩⟩
  by_cases h0 : a > 0
  · rw [decide_eq_true h0]
    refine iteT ?_
    refine ⟨.ref p, rfl, p, _, 0, .int a, rfl, rfl, hL hp, rfl, .int q, rfl, a, q, rfl, ⟨by omega, by omega⟩, fun T hT => ⟨T, _, rfl, .inl (.inl upd_same), rfl, _, _, rfl, .ref p, rfl, p, [.int a, .int b], 0, 0, rfl, rfl, ?_, rfl, ?_⟩⟩
    · have ne : p ≠ T := fun w => by
        rw [← w, hp] at hT
        cases hT
      rw [upd_ne ne]
      exact hp
    · refine ⟨_, _, rfl, rfl, _, rfl, fin (a % q) (a / q) b _ (Int.emod_nonneg a (by omega)) (Int.emod_lt_of_pos a (by omega)) (Int.ediv_nonneg ha (by omega)) upd_same fun x u ne e => ?_⟩
      rw [upd_ne ne]
      exact same_new hT x u e
  · rw [decide_eq_false h0]
    refine iteF ?_
    have bl : (0 : Int) ≤ (b * 39373 + 4259).fmod 2147483587 ∧ (b * 39373 + 4259).fmod 2147483587 < 2147483587 := by
      rw [Int.fmod_eq_emod_of_nonneg _ (by decide)]
      exact ⟨Int.emod_nonneg _ (by decide), Int.emod_lt_of_pos _ (by decide)⟩
    generalize hc : (b * 39373 + 4259).fmod 2147483587 = c at bl
    have hp2 : upd H p (.lst [.int a, .int c]) p = some (.lst [.int a, .int c]) := upd_same
    refine ⟨.ref p, rfl, p, _, 1, .int b, rfl, rfl, hL hp, rfl, b, 39373, rfl, rfl, .inr ⟨by decide, by decide⟩, b * 39373, 4259, rfl, rfl, .inl ⟨_, rfl, b * 39373 + 4259, 2147483587, rfl, rfl, by show (2147483587 : Int) ≠ 0; decide, ?_⟩⟩
    dsimp only
    rw [hc]
    refine ⟨.ref p, rfl, p, _, 1, 1, rfl, rfl, hp, rfl, ?_⟩
    refine ⟨.ref p, rfl, p, _, 1, .int c, rfl, rfl, hL hp2, rfl, .ref p, rfl, p, _, 1, .int c, rfl, rfl, hL hp2, rfl, c, c, rfl, rfl, .inl ⟨by omega, by omega⟩, .inl ⟨_, rfl, c * c, 2147483563, rfl, rfl, by show (2147483563 : Int) ≠ 0; decide, _, 17, rfl, rfl, ⟨by decide, by decide⟩, .inl ⟨_, rfl, .int q, rfl, _, q, rfl, rfl, by show q ≠ 0; omega, ?_⟩⟩⟩
    dsimp only
    rw [Int.fmod_eq_emod_of_nonneg _ (show (0 : Int) ≤ q by omega)]
    exact fin _ a c _ (Int.emod_nonneg _ (by omega)) (Int.emod_lt_of_pos _ (by omega)) ha hp2 fun x u ne e => by
      rw [upd_ne ne]
      exact e
end
end Q7

-- part Qu
set_option Elab.async false
set_option linter.all false
set_option maxRecDepth 100000
/-! Qu: an item by a drawn index; fewer outcomes. -/
namespace Q7
open PySem PySem.Spec PyProof.Rows L2

def memI (i : Int) : List PyData → Bool
  | [] => false
  | .int j :: r => decide (i = j) || memI i r
  | _ :: r => memI i r
theorem memI_mem {i : Int} : ∀ {r : List PyData}, memI i r = true → PyData.int i ∈ r
  | [], h => by cases h
  | d :: r, h => by
    cases d with
    | int j =>
      rcases Bool.or_eq_true_iff.mp (show (decide (i = j) || memI i r) = true from h) with q | q
      · rw [of_decide_eq_true q]
        exact List.mem_cons_self
      · exact List.mem_cons_of_mem _ (memI_mem q)
    | _ => exact List.mem_cons_of_mem _ (memI_mem (r := r) h)
def ddD : List PyData → List PyData
  | [] => []
  | .int i :: r => if memI i r then ddD r else .int i :: ddD r
  | d :: r => d :: ddD r
theorem ddD_mem {x : PyData} : ∀ {r : List PyData}, x ∈ r → x ∈ ddD r
  | [], h => by cases h
  | d :: r, h => by
    have ih := @ddD_mem x r
    cases d with
    | int i =>
      show x ∈ if memI i r then ddD r else .int i :: ddD r
      split
      · rename_i q
        rcases List.mem_cons.mp h with rfl | h
        · exact ih (memI_mem q)
        · exact ih h
      · rcases List.mem_cons.mp h with rfl | h
        · exact List.mem_cons_self
        · exact List.mem_cons_of_mem _ (ih h)
    | _ =>
      rcases List.mem_cons.mp h with h | h
      · rw [h]
        exact List.mem_cons_self
      · exact List.mem_cons_of_mem _ (ih h)
section
variable {X : Cx} {a b : Expr} {f : Nv → Option PyData} {g : Nv → Option (List PyData)} {pos : Pos}
def nIx (f : Nv → Option PyData) (g : Nv → Option (List PyData)) : Nv → Option (List PyData) := fun env => (f env).bind fun d => match d with
  | .list ds => (g env).bind fun is => (allO (fun i => (gIx (.list ds) i).map fun r => [r]) is).map ddD
  | _ => none
theorem n_ix (hu : X.A.units + 64 < cLine) (ha : PF X a f) (hb : PN X b g) (hs : PlainIx b) : PN X (.Subscript a b pos) (nIx f g) :=
  pe_imp (pe_ix ix_list ha hb hs) fun σ H Q ⟨B, p, o, Hf, env, outs, S, z, k⟩ => by
    obtain ⟨d, z1, z2⟩ := Option.bind_eq_some_iff.mp z
    obtain ⟨ds, rfl⟩ : ∃ ds, d = .list ds := by
      cases d <;> first | exact ⟨_, rfl⟩ | cases z2
    obtain ⟨is, z3, z4⟩ := Option.bind_eq_some_iff.mp z2
    obtain ⟨os, z5, rfl⟩ := Option.map_eq_some_iff.mp z4
    refine ⟨upd B p o, Hf, env, _, S.st, z1, fun x Hf1 H1 S1 s1 g1 r1 => ?_⟩
    have gg := g1.toB S.st.base
    have N1 := S.next S1 gg rfl
    refine ⟨B, p, o, Hf1, env, is, N1, z3, fun i hi y o2 Hf2 H2 N2 g2 r2 => ?_⟩
    obtain ⟨xs, w1, w2⟩ := allO_mem z5 hi
    obtain ⟨r, w3, rfl⟩ := Option.map_eq_some_iff.mp w1
    obtain ⟨j, rfl⟩ : ∃ j, i = .int j := by
      cases i <;> first | exact ⟨_, rfl⟩ | cases w3
    obtain rfl : y = V.int j := r2
    obtain ⟨q, vs, rfl, hq, rk⟩ := r1
    obtain ⟨v, e1, rv⟩ := rpA_atI (RpA.mono g2.same _ _ rk) w3
    exact ⟨q, vs, j, v, rfl, rfl, N2.st.sub.lst (Sub.lst (.of g2.same) hq), e1, k r (ddD_mem (w2 _ List.mem_cons_self)) v o2 Hf2 H2 N2 ((grow_up gg).tr g2) rv⟩
theorem st_lay {K : PySem.W.Frag} {B Hf H : Hp} {env : Nv} {σ : L2.St} {q : Addr} {u u' : HO} (S : StOk K (upd B q u) Hf env σ H) (hb : B q = none) (hf : Hf q = none) : StOk K B Hf env σ (upd H q u') := by
  have S2 := st_weak S hb
  refine ⟨sub_updR S.sub hf, fun a w e => ?_, S.len, fun i c e => ?_, S.apart⟩
  · rw [upd_ne (fun z => by rw [z, hb] at e; cases e)]
    exact S2.base a w e
  · have h0 := S.cell i c e
    cases c with
    | un => trivial
    | raw v => exact h0
    | fr d => exact h0
    | ow d =>
      obtain ⟨r, k1, k2, k3, k4⟩ := h0
      have ne : r ≠ q := fun w => by
        rw [w, upd_same] at k2
        cases k2
      rw [upd_ne ne] at k2
      exact ⟨r, k1, k2, k3, k4.mono (Same.refl _) (upd_ne ne)⟩
/-- {k: v, l: u}, whole numbers as keys -/
def fDct2 (f1 f2 f3 f4 : Nv → Option PyData) : Nv → Option PyData := fun env => (f1 env).bind fun k => (f2 env).bind fun v => (f3 env).bind fun l => (f4 env).bind fun u => match k, l with
  | .int i, .int j => some (.dict (dPut (dPut [] i v) j u))
  | _, _ => none
theorem c_dct2 {c e : Expr} {f1 f2 f3 f4 : Nv → Option PyData} (h1 : PF X a f1) (h2 : PF X b f2) (h3 : PF X c f3) (h4 : PF X e f4) : PO' X (.Dict [some a, some c] [b, e] pos) (fDct2 f1 f2 f3 f4) :=
  pe_imp (pe_disp (pps_cons h1 h2 (pps_cons h3 h4 pps_nil)) (by rfl) (by rfl) (fun z => by cases z) (by show 2 ≤ 15; decide)) fun σ H Q ⟨B, Hf, env, d, S, z, k⟩ => by
    obtain ⟨d1, z1, z⟩ := Option.bind_eq_some_iff.mp z
    obtain ⟨d2, z2, z⟩ := Option.bind_eq_some_iff.mp z
    obtain ⟨d3, z3, z⟩ := Option.bind_eq_some_iff.mp z
    obtain ⟨d4, z4, z⟩ := Option.bind_eq_some_iff.mp z
    obtain ⟨i, rfl⟩ : ∃ i, d1 = .int i := by
      cases d1 <;> first | exact ⟨_, rfl⟩ | cases z
    obtain ⟨j, rfl⟩ : ∃ i, d3 = .int i := by
      cases d3 <;> first | exact ⟨_, rfl⟩ | cases z
    cases z
    intro q hq
    have bq : B q = none := S.bfree hq
    have S0 := st_hold (u := .dK []) S hq
    refine ⟨_, Hf, env, _, S0, z1, fun x1 Hf1 H1 S1 s1 g1 r1 => ⟨_, Hf1, env, _, S1, z2, fun x2 Hf2 H2 S2 s2 g2 r2 => ⟨_, Hf2, env, _, S2, z3, fun x3 Hf3 H3 S3 s3 g3 r3 => ⟨_, Hf3, env, _, S3, z4, fun x4 Hf4 H4 S4 s4 g4 r4 => ?_⟩⟩⟩⟩
    obtain rfl : x1 = V.int i := r1
    obtain rfl : x3 = V.int j := r3
    have hq4 : H4 q = some (.dK []) := S4.base q _ upd_same
    have gg : Grow Hf Hf4 (upd B q (.dK [])) := (g1.toB S0.base).tr ((g2.toB S1.base).tr ((g3.toB S2.base).tr (g4.toB S3.base)))
    have fq : Hf4 q = none := gg.new q (S.hfree hq) (by rw [upd_same]; exact fun w => nomatch w)
    refine ⟨hq4, [(Sum.inl i, x2), (Sum.inl j, x4)], rfl, (by show 2 ≤ 15; decide), ?_⟩
    have rr : RpK X.K Hf4 (dPut (dPut [] i d2) j d4) (mergeK [] [(Sum.inl i, x2), (Sum.inl j, x4)]) := rpK_put r4 (rpK_put (Rp.mono g4.same _ _ (Rp.mono g3.same _ _ r2)) rfl)
    refine k (.ref q) Hf4 _ (st_lay S4 bq fq) (fun a' w e' => ?_) ⟨gg.same, fun a' fa na => ?_⟩ ⟨q, rfl, hq, fq, _, upd_same, rr⟩
    · have ne : a' ≠ q := ne_of_none e' hq
      rw [upd_ne ne]
      exact s4 a' w (s3 a' w (s2 a' w (s1 a' w (by rw [upd_ne ne]; exact e'))))
    · have ne : a' ≠ q := fun w => na (w ▸ hq)
      have n0 : upd H q (.dK []) a' ≠ none := by rw [upd_ne ne]; exact na
      exact g4.new a' (g3.new a' (g2.new a' (g1.new a' fa n0) (same_ne s1 n0)) (same_ne s2 (same_ne s1 n0))) (same_ne s3 (same_ne s2 (same_ne s1 n0)))
end
end Q7

-- part Qx
set_option Elab.async false
set_option linter.all false
set_option maxRecDepth 100000
/-! Qx: promises of defs called by keywords alone; drawing defs without guards. -/
namespace Q7
open PySem PySem.Spec PyProof.Rows L2
open C8 (Cal pe_c)
theorem _root_.L2.FunD.bindsK {K : PySem.W.Frag} {x qual : Str} {params : Arguments} {body : List Stmt} {scope : Scope} {kws : List (Str × V)} {f : Addr} {fd : FuncData} {ps ks : List Str} (F : FunD K x qual params body scope [] kws f fd)
    (h : ∀ (kV doc pm : Value) (an : Option Addr) (cdv ct : Value) (ws : List Value), ws.length = ps.length → bindArgs (PySem.W.fnOf x qual params body scope .none kV doc pm an cdv ct) ⟨[], ks.zip ws⟩ = pure (ps.zip ws.reverse)) :
    ∀ (s : Shared) (ws : List Value), K.In s.heap → ws.length = ps.length → BindsTo s fd ⟨[], ks.zip ws⟩ (ps.zip ws.reverse) := by
  obtain ⟨oc, od, dV, kV, doc, pm, an, cdv, ct, osl, rfl, lk, hcd, hD, hK⟩ := F.ex
  rcases hD with ⟨_, rfl⟩ | ⟨e, _⟩
  · exact fun s ws _ hl => .of_eq (h kV doc pm an cdv ct ws hl)
  · exact absurd rfl e
section
theorem fnk_F {x : Str} {ks : List Str} {P : Program} {w : World} {K : PySem.W.Frag} {mg : Str → Option Value} {base : Heap} {params : Arguments} {body : List Stmt} {scope : Scope} {f : Addr} {fd : FuncData} {N ps : List Str} {k : Nat} {g : Sx} (F : FunD K x x params body scope [] [] f fd) (hm : mg x = some (.ref f)) (b : ∀ (s : Shared) (ws : List Value), K.In s.heap → ws.length = ps.length → BindsTo s fd ⟨[], ks.zip ws⟩ (ps.zip ws.reverse)) (S : FnScope N ps scope)
    (hb : ∀ (cdv : Value) (A : Around) (outer : List Env) (s : Shared) (H : Hp) (E : XK), Room k (cxB P w K mg base N x scope f cdv A outer s H E).A → PBl (cxB P w K mg base N x scope f cdv A outer s H E) (RF K) body g) : CalK P w K mg base (k + 1) x (spF K (RF K) (runF N.length ps.length g)) ks := by
  have len : ∀ vs H Q E, spF K (RF K) (runF N.length ps.length g) vs H Q E → vs.length = ps.length := fun vs H Q E ⟨Hf, ds, d, _, r, z, _⟩ => by
    unfold runF at z
    split at z
    · rename_i q
      rw [r.length]
      exact Nat.eq_of_beq_eq_true q
    · cases z
  refine ⟨f, fd, ps, F.ok S len (fun cdv A outer s H vs Q E hr h => ?_), hm, F.kp, b⟩
  refine ⟨_, PSs.nox (hb cdv A outer s H E hr), ?_⟩
  obtain ⟨Hf, ds, d, sb, r, z, k⟩ := h
  unfold runF at z
  split at z
  · obtain ⟨o, z1, z2⟩ := Option.bind_eq_some_iff.mp z
    refine ⟨H, Hf, _, o, start_ok sb r, z1, ?_⟩
    cases o with
    | nx e =>
      cases z2
      exact fun σ' Hf' H' S' g' => k .non Hf' H' S'.sub S'.base g' rfl
    | rt d =>
      cases z2
      exact fun v Hf' H' sb s' g' r => k v Hf' H' sb s' g' r
  · cases z
theorem fnk_O {x : Str} {ks : List Str} {P : Program} {w : World} {K : PySem.W.Frag} {mg : Str → Option Value} {base : Heap} {params : Arguments} {body : List Stmt} {scope : Scope} {f : Addr} {fd : FuncData} {N ps : List Str} {k : Nat} {g : Sx} (F : FunD K x x params body scope [] [] f fd) (hm : mg x = some (.ref f)) (b : ∀ (s : Shared) (ws : List Value), K.In s.heap → ws.length = ps.length → BindsTo s fd ⟨[], ks.zip ws⟩ (ps.zip ws.reverse)) (S : FnScope N ps scope)
    (hb : ∀ (cdv : Value) (A : Around) (outer : List Env) (s : Shared) (H : Hp) (E : XK), Room k (cxB P w K mg base N x scope f cdv A outer s H E).A → PBl (cxB P w K mg base N x scope f cdv A outer s H E) (RO K) body g) : CalK P w K mg base (k + 1) x (spF K (RO K) (runO N.length ps.length g)) ks := by
  have len : ∀ vs H Q E, spF K (RO K) (runO N.length ps.length g) vs H Q E → vs.length = ps.length := fun vs H Q E ⟨Hf, ds, d, _, r, z, _⟩ => by
    unfold runO at z
    split at z
    · rename_i q
      rw [r.length]
      exact Nat.eq_of_beq_eq_true q
    · cases z
  refine ⟨f, fd, ps, F.ok S len (fun cdv A outer s H vs Q E hr h => ?_), hm, F.kp, b⟩
  refine ⟨_, PSs.nox (hb cdv A outer s H E hr), ?_⟩
  obtain ⟨Hf, ds, d, sb, r, z, k⟩ := h
  unfold runO at z
  split at z
  · obtain ⟨o, z1, z2⟩ := Option.bind_eq_some_iff.mp z
    refine ⟨H, Hf, _, o, start_ok sb r, z1, ?_⟩
    cases o with
    | nx e => cases z2
    | rt d =>
      cases z2
      exact fun v Hf' H' sb s' g' r => k v Hf' H' sb s' g' r
  · cases z
end
theorem n_callG {X : Cx} {e0 : Expr} {es : List Expr} {fs : Nv → Option (List PyData)} {G : Addr → List PyData → Option (List PyData)} {x : Str} {p pos : Pos} {j k : Nat} (c : CalG X.prog X.w X.K X.mg X.base k x (spN X.K G)) (hgd : X.A.guards = some []) (hr : Room j X.A) (hk : k ≤ j) (hg : Gl X x) (h0 : PE X e0 (tVar 0)) (ha : PAf X es fs) (hdb : (x == ("__debug__" : Str)) = false := by decide)
    (he : starEach (e0 :: es) X.env = (false, eval e0 X.env) :: starEach es X.env := by rfl) (hpl : (backTo pos (starEach es X.env)).any (·.1) = false := by rfl) : PN X (.Call (.Name x p) (e0 :: es) [] pos) (nCall fs G) :=
  pe_imp (pe_cG c hgd hr hk hg (pa_cons h0 ha he) hdb he hpl) fun σ H Q ⟨B, p, o, Hf, env, outs, S, z, q⟩ => by
    obtain ⟨p', z0, z1⟩ := Option.bind_eq_some_iff.mp z
    obtain ⟨ds, z2, z3⟩ := Option.bind_eq_some_iff.mp z1
    have ep : p' = p := by
      unfold potA at z0
      rw [S.c0] at z0
      exact (Option.some.inj z0).symm
    subst ep
    refine ⟨.ref p', S.st.cell 0 _ S.c0, upd B p' o, Hf, env, ds, S.st, z2, fun vs Hf1 H1 S1 s1 g1 r1 => ?_⟩
    have gg := g1.toB S.st.base
    have N1 := S.next S1 gg rfl
    show spN X.K G ((V.ref p' :: vs) ++ []) H1 Q C8.E0
    rw [List.append_nil]
    refine ⟨p', o, Hf1, ds, outs, vs, rfl, N1.hp, S.po, N1.hf, S1.sub, r1, z3, fun d hd v o' Hf' H' po hf hp sb s g r => ?_⟩
    exact q d hd v o' Hf' H' (N1.after po hf hp sb s g) ((grow_up gg).tr (grow_up (g.toB S1.base))) r
theorem fnG_N {x : Str} {P : Program} {w : World} {K : PySem.W.Frag} {mg : Str → Option Value} {base : Heap} {params : Arguments} {body : List Stmt} {scope : Scope} {f : Addr} {fd : FuncData} {x0 : Str} {N ps : List Str} {k : Nat} {g : Nx} (F : FunD K x x params body scope [] [] f fd) (hm : mg x = some (.ref f)) (b : Binds K fd (x0 :: ps) []) (S : FnScope (x0 :: N) (x0 :: ps) scope)
    (hb : ∀ (cdv : Value) (A : Around) (outer : List Env) (s : Shared) (H : Hp) (E : XK), A.guards = some [] → Room k (cxB P w K mg base (x0 :: N) x scope f cdv A outer s H E).A → PLn (cxB P w K mg base (x0 :: N) x scope f cdv A outer s H E) body g) : CalG P w K mg base (k + 1) x (spN K (runN (x0 :: N).length ps.length g)) := by
  have len : ∀ vs H Q E, spN K (runN (x0 :: N).length ps.length g) vs H Q E → vs.length = (x0 :: ps).length := fun vs H Q E ⟨p, o, Hf, ds, outs, us, e, _, _, _, _, r, z, _⟩ => by
    unfold runN at z
    split at z
    · rename_i q
      rw [e, List.length_cons, r.length, List.length_cons]
      exact congrArg (· + 1) (Nat.eq_of_beq_eq_true q)
    · cases z
  refine ⟨f, fd, x0 :: ps, fnG_of F S len (fun cdv A outer s H vs Q E hg hr h => ?_), hm, F.kp, b⟩
  refine ⟨_, PSs.nox (hb cdv A outer s H E hg hr), ?_⟩
  obtain ⟨p, o, Hf, ds, outs, us, rfl, hp, po, hf, sb, r, z, kk⟩ := h
  unfold runN at z
  split at z
  · obtain ⟨os, z1, z2⟩ := Option.bind_eq_some_iff.mp z
    have eB : upd (fun a => if a = p then none else H a) p o = H := by
      funext a
      by_cases ea : a = p
      · subst ea
        rw [upd_same, hp]
      · rw [upd_ne ea, if_neg ea]
    refine ⟨fun a => if a = p then none else H a, p, o, Hf, _, os, ⟨if_pos rfl, po, hf, by rw [eB]; exact startP_ok sb r, rfl⟩, z1, fun out ho => ?_⟩
    obtain ⟨d, rfl, hd⟩ := rts_mem z2 ho
    refine fun v o' Hf' H' po' hf' sb' s' g' r' => kk d hd v o' Hf' H' po' hf' (s' p o' upd_same) sb' (fun a u ne e => s' a u (by rw [upd_ne ne, if_neg ne]; exact e)) ⟨g'.same, fun a fa na => ?_⟩ r'
    by_cases ea : a = p
    · rw [ea]
      exact hf'
    · exact g'.new a fa (by rw [if_neg ea]; exact na)
  · cases z
theorem kp_app {i : Nat} {f : Nv → Option PyData} (h : i ≠ 0 := by decide) : keep0 (sApp i f) := fun env e z => by
  obtain ⟨d, z1, z2⟩ := Option.bind_eq_some_iff.mp z
  split at z2
  · split at z2
    · cases z2
      exact set0 h
    · cases z2
  · cases z2
end Q7

-- part Qy
set_option Elab.async false
set_option linter.all false
set_option maxRecDepth 100000
/-! Qy: the table of code objects that a lambda's making grows; readings ahead of it and behind it. -/
namespace Q7
open PySem PySem.Spec PyProof.Rows L2
open C8 (Cal pe_c)

/-- all but the table -/
def hideT (T : Addr) (B : Hp) : Hp := fun a => if a = T then none else B a
section
variable {K : PySem.W.Frag} {B Hf Hf' Hf2 H H' H1 : Hp} {T p a : Addr} {o : HO} {env : Nv} {σ : L2.St} {D : Ends} {R : Md}
theorem hideT_at : hideT T B T = none := if_pos rfl
theorem hideT_ne (h : a ≠ T) : hideT T B a = B a := if_neg h
theorem hideT_none (h : B a = none) : hideT T B a = none := by
  unfold hideT
  split
  · rfl
  · exact h
theorem hideT_some {u : HO} (h : hideT T B a = some u) : a ≠ T ∧ B a = some u := by
  unfold hideT at h
  split at h
  · cases h
  · rename_i q
    exact ⟨q, h⟩
theorem same_hide (s : Same B H) : Same (hideT T B) H := fun a u e => s a u (hideT_some e).2
theorem same_hide2 (s : Same B H) : Same (hideT T B) (hideT T H) := fun a u e => by
  obtain ⟨ne, e2⟩ := hideT_some e
  rw [hideT_ne ne]
  exact s a u e2
theorem same_hide_up (s : Same (upd B p o) H) : Same (upd (hideT T B) p o) H := fun a u e => by
  by_cases ea : a = p
  · subst ea
    rw [upd_same] at e
    exact s a u (by rw [upd_same]; exact e)
  · rw [upd_ne ea] at e
    exact s a u (by rw [upd_ne ea]; exact (hideT_some e).2)
theorem hide_upd (h : p ≠ T) : hideT T (upd B p o) = upd (hideT T B) p o := by
  funext a
  by_cases ea : a = p
  · subst ea
    rw [hideT_ne h, upd_same, upd_same]
  · rw [upd_ne ea]
    unfold hideT
    rw [upd_ne ea]
theorem grow_hide (g : Grow Hf Hf' B) : Grow Hf Hf' (hideT T B) := ⟨g.same, fun a f n => g.new a f fun w => n (hideT_none w)⟩
theorem st_tab (S : StOk K B Hf env σ H) (hT : B T ≠ none) (hf : Hf T = none) (s : ∀ a u, a ≠ T → H a = some u → H1 a = some u) : StOk K (hideT T B) Hf env σ H1 := by
  refine ⟨fun a u r => ?_, fun a u e => ?_, S.len, fun i c e => ?_, S.apart⟩
  · have ne : a ≠ T := fun w => by
      rw [w] at r
      rcases r with r | ⟨o, r⟩
      · rw [hf] at r; cases r
      · rw [hf] at r; cases r
    rcases S.sub a u r with z | ⟨o, z⟩
    · exact .inl (s a _ ne z)
    · exact .inr ⟨o, s a _ ne z⟩
  · obtain ⟨ne, e2⟩ := hideT_some e
    exact s a u ne (S.base a u e2)
  · have h0 := S.cell i c e
    cases c with
    | un => trivial
    | raw v => exact h0
    | fr d => exact h0
    | ow d =>
      obtain ⟨q, k1, k2, k3, k4⟩ := h0
      have ne : q ≠ T := fun w => hT (w ▸ k2)
      obtain ⟨oq, hq⟩ : ∃ oq, H q = some oq := by
        cases e2 : H q with
        | none => exact (k4.there e2).elim
        | some oq => exact ⟨oq, rfl⟩
      exact ⟨q, k1, hideT_none k2, k3, k4.mono (Same.refl _) ((s q oq ne hq).trans hq.symm)⟩
/-- the table is empty yet -/
structure TOk (B Hf : Hp) (T : Addr) : Prop where
  t : B T = some (.tbl #[])
  f : Hf T = none
theorem TOk.ne (t : TOk B Hf T) : B T ≠ none := by
  rw [t.t]
  exact fun w => nomatch w
theorem TOk.grow (t : TOk B Hf T) (g : Grow Hf Hf' B) : TOk B Hf' T := ⟨t.t, g.new T t.f t.ne⟩
theorem TOk.up (t : TOk B Hf T) (h : B p = none) : TOk (upd B p o) Hf T := ⟨by
  have q : T ≠ p := fun w => t.ne (by rw [w]; exact h)
  rw [upd_ne q]
  exact t.t, t.f⟩
theorem TOk.pne (t : TOk B Hf T) (h : B p = none) : p ≠ T := fun w => t.ne (by rw [← w]; exact h)
theorem st_hide (S : StOk K B Hf env σ H) (t : TOk B Hf T) : StOk K (hideT T B) Hf env σ (hideT T H) := st_tab S t.ne t.f fun a u ne e => by
  rw [hideT_ne ne]
  exact e
def tXT (K : PySem.W.Frag) (T : Addr) (f : Nv → Option PyData) : TE := fun σ H Q => ∃ B Hf env d, StOk K B Hf env σ H ∧ TOk B Hf T ∧ f env = some d ∧
  ∀ v Hf' H', StOk K (hideT T B) Hf' env σ H' → Grow Hf Hf' (hideT T B) → Rp K Hf' d v → Q v H'
def tST (K : PySem.W.Frag) (T : Addr) (g : Sx) : TS := fun D σ H => ∃ B Hf env out, StOk K B Hf env σ H ∧ TOk B Hf T ∧ g env = some out ∧ outK K (RF K) D (hideT T B) Hf out
def tNXT (K : PySem.W.Frag) (T : Addr) (f : Nv → Option (List PyData)) : TE := fun σ H Q => ∃ B p o Hf env ds, NSt K B p o Hf env σ H ∧ TOk B Hf T ∧ f env = some ds ∧
  ∀ d ∈ ds, ∀ v o' Hf' H', NSt K (hideT T B) p o' Hf' env σ H' → Grow Hf Hf' (hideT T B) → Rp K Hf' d v → Q v H'
def tSNT (K : PySem.W.Frag) (T : Addr) (g : Nx) : TS := fun D σ H => ∃ B p o Hf env outs, NSt K B p o Hf env σ H ∧ TOk B Hf T ∧ g env = some outs ∧ ∀ out ∈ outs, outN K D (hideT T B) p Hf out
end
section
variable {X : Cx} {T : Addr} {st : Stmt} {sts : List Stmt} {g g2 : Sx} {gn gn2 : Nx} {e a b c it tg : Expr} {f f1 f2 : Nv → Option PyData} {fn : Nv → Option (List PyData)} {pos : Pos} {i j : Nat} {js : List Nat} {x y : Str} {bd : Bd}
theorem lt_a (h1 : PSr X (RF X.K) st g) (h2 : PSs X sts (tST X.K T g2)) : PSs X (st :: sts) (tST X.K T (sCons g g2)) := pss_imp (pss_cons h1 h2) fun D σ H ⟨B, Hf, env, out, S, t, z, k⟩ => by
  obtain ⟨o, z1, z2⟩ := Option.bind_eq_some_iff.mp z
  refine ⟨B, Hf, env, o, S, z1, ?_⟩
  cases o with
  | nx e => exact fun σ' Hf' H' S' g' => ⟨B, Hf', e, out, S', t.grow g', z2, k.mono (grow_hide g')⟩
  | rt d =>
    cases z2
    exact fun v Hf' H' s1 s2 g' r => k v Hf' H' s1 (same_hide s2) (grow_hide g') r
theorem lt_b (h1 : PS X st (tST X.K T g)) (h2 : PBl X (RF X.K) sts g2) : PSs X (st :: sts) (tST X.K T (sCons g g2)) := pss_imp (pss_cons h1 h2) fun D σ H ⟨B, Hf, env, out, S, t, z, k⟩ => by
  obtain ⟨o, z1, z2⟩ := Option.bind_eq_some_iff.mp z
  refine ⟨B, Hf, env, o, S, t, z1, ?_⟩
  cases o with
  | nx e => exact fun σ' Hf' H' S' g' => ⟨hideT T B, Hf', e, out, S', z2, k.mono g'⟩
  | rt d =>
    cases z2
    exact k
theorem s_forT {body : List Stmt} (hp : PassesOwn (model X.prog X.w) X.A X.env X.xe) (hc : X.calm = true) (he : PE X it (tXT X.K T f)) (hl : ∀ env d, f env = some d → ∃ ds, d = .list ds) (hg : PGr X tg js bd) (hb : PBl X (RF X.K) body g)
    (hs : ∀ x, foldedSetIterable it X.env x = pure x := by intro _; rfl) : PS X (.For tg it body [] pos) (tST X.K T (sFor (sqOf f) bd g)) := ps_imp (ps_for hp hc (pi_list he) hg hb hs) fun D σ H ⟨B, Hf, env, out, S, t, z, k⟩ => by
  obtain ⟨ds, z1, z2⟩ := Option.bind_eq_some_iff.mp z
  obtain ⟨d, z3, z4⟩ := Option.bind_eq_some_iff.mp z1
  obtain ⟨es, rfl⟩ := hl env d z3
  cases z4
  exact ⟨B, Hf, env, _, S, t, z3, fun v Hf' H' S' g' ⟨q, xs, e, hq, r⟩ => ⟨q, e, ⟨xs, S'.sub.lst hq⟩, for_core S' (wk_lst hq r) z2 (k.mono g')⟩⟩
theorem nt_a (h1 : PSn X st gn) (h2 : PSs X sts (tSNT X.K T gn2)) : PSs X (st :: sts) (tSNT X.K T (nCons gn gn2)) := pss_imp (pss_cons h1 h2) fun D σ H ⟨B, p, o, Hf, env, outs, S, t, z, k⟩ => by
  obtain ⟨os, z1, z2⟩ := Option.bind_eq_some_iff.mp z
  refine ⟨B, p, o, Hf, env, os, S, z1, fun out ho => ?_⟩
  obtain ⟨xs, w1, w2⟩ := allO_mem z2 ho
  cases out with
  | nx e2 => exact fun σ' o' Hf' H' S' g' => ⟨B, p, o', Hf', e2, xs, S', t.grow g', w1, fun q hq => (k q (w2 q hq)).mono (grow_hide g')⟩
  | rt d =>
    cases w1
    exact fun v o' Hf' H' h1 h2 h3 h4 g' r => k _ (w2 _ List.mem_cons_self) v o' Hf' H' h1 h2 h3 (same_hide_up h4) (grow_hide g') r
theorem nt_b (h1 : PS X st (tSNT X.K T gn)) (h2 : PLn X sts gn2) : PSs X (st :: sts) (tSNT X.K T (nCons gn gn2)) := pss_imp (pss_cons h1 h2) fun D σ H ⟨B, p, o, Hf, env, outs, S, t, z, k⟩ => by
  obtain ⟨os, z1, z2⟩ := Option.bind_eq_some_iff.mp z
  refine ⟨B, p, o, Hf, env, os, S, t, z1, fun out ho => ?_⟩
  obtain ⟨xs, w1, w2⟩ := allO_mem z2 ho
  cases out with
  | nx e2 => exact fun σ' o' Hf' H' S' g' => ⟨hideT T B, p, o', Hf', e2, xs, S', w1, fun q hq => (k q (w2 q hq)).mono g'⟩
  | rt d =>
    cases w1
    exact k _ (w2 _ List.mem_cons_self)
theorem nt_one (h : PS X st (tSNT X.K T gn)) : PSs X [st] (tSNT X.K T gn) := pss_one h
theorem nt_nil : PSs X [] (tSNT X.K T nNil) := pss_imp pss_nil fun D σ H ⟨B, p, o, Hf, env, outs, S, t, z, k⟩ => by
  cases z
  refine k _ List.mem_cons_self σ o Hf H ⟨hideT_none S.bp, S.po, S.hf, ?_, S.c0⟩ .refl
  rw [← hide_upd (t.pne S.bp)]
  exact st_tab S.st (t.up S.bp).ne t.f fun _ _ _ h => h
theorem n_retT (h : PE X e (tNXT X.K T fn)) : PS X (.Return (some e) pos) (tSNT X.K T (nRet fn)) := ps_imp (ps_ret h) fun D σ H ⟨B, p, o, Hf, env, outs, S, t, z, k⟩ => by
  obtain ⟨ds, z1, rfl⟩ := Option.map_eq_some_iff.mp z
  exact ⟨B, p, o, Hf, env, ds, S, t, z1, fun d hd v o' Hf' H' S' g' r => k (.rt d) (List.mem_map.mpr ⟨d, hd, rfl⟩) v o' Hf' H' S'.po S'.hf S'.st.sub S'.st.base g' r⟩
theorem n_ifST {gb : Nv → Option (List Bool)} {s1 s2 : List Stmt} (hc : PTn X c gb) (ha : PSs X s1 (tSNT X.K T gn)) (hb : PSs X s2 (tSNT X.K T gn2)) : PS X (.If c s1 s2 pos) (tSNT X.K T (nIfS gb gn gn2)) := ps_imp (ps_if hc ha hb) fun D σ H ⟨B, p, o, Hf, env, outs, S, t, z, k⟩ => by
  obtain ⟨bs, z1, z2⟩ := Option.bind_eq_some_iff.mp z
  refine ⟨B, p, o, Hf, env, bs, S, z1, fun q hq o' Hf' H' S' g' => ?_⟩
  obtain ⟨xs, w1, w2⟩ := allO_mem z2 hq
  cases q with
  | true => exact iteT ⟨B, p, o', Hf', env, xs, S', t.grow g', w1, fun r hr => (k r (w2 r hr)).mono (grow_hide g')⟩
  | false => exact iteF ⟨B, p, o', Hf', env, xs, S', t.grow g', w1, fun r hr => (k r (w2 r hr)).mono (grow_hide g')⟩
theorem n_par2T {px py pt pt2 : Pos} {kt k2 : Nat} (h1 : i ≠ 0) (h2 : j ≠ 0) (hc : X.calm = true) (hN : X.N.Nodup) (hi : X.N[i]? = some x) (hj : X.N[j]? = some y) (hij : i ≠ j) (hx : X.env.scope.names.lookup x = some .local) (hy : X.env.scope.names.lookup y = some .local) (ha : PF X a f1) (hb : PE X b (tXT X.K T f2))
    (hw : swappedStores [.Tuple [.Name x px, .Name y py] kt pt] (.Tuple [a, b] k2 pt2) X.env = pure (some [x, y])) (hs : swapsWithSole [.Tuple [.Name x px, .Name y py] kt pt] (.Tuple [a, b] k2 pt2) pos.line X.env = pure false := by rfl)
    (hs1 : starEach [a, b] X.env = (false, eval a X.env) :: starEach [b] X.env := by rfl) (hs2 : starEach [b] X.env = (false, eval b X.env) :: starEach [] X.env := by rfl) :
    PS X (.Assign [.Tuple [.Name x px, .Name y py] kt pt] (.Tuple [a, b] k2 pt2) pos) (tSNT X.K T (one1 (sPar2 i j false false f1 f2))) :=
  ps_imp (ps_par hc hN hi hj hij hx hy (pa_cons ha (pa_cons hb pa_nil hs2) hs1) hw hs) fun D σ H ⟨B, p, o, Hf, env, outs, S, t, z, k⟩ => by
    obtain ⟨out, z1, rfl⟩ := Option.map_eq_some_iff.mp z
    obtain ⟨d1, z2, z1⟩ := Option.bind_eq_some_iff.mp z1
    obtain ⟨d2, z3, z1⟩ := Option.bind_eq_some_iff.mp z1
    cases z1
    refine ⟨upd B p o, Hf, env, d1, S.st, z2, fun v1 Hf1 H1 S1 s1 g1 r1 => ?_⟩
    have gg := g1.toB S.st.base
    have N1 := S.next S1 gg rfl
    have ne := t.pne S.bp
    refine ⟨upd B p o, Hf1, env, d2, S1, (t.up S.bp).grow gg, z3, fun v2 Hf2 H2 S2 g2 r2 => ⟨v1, v2, rfl, ?_⟩⟩
    rw [hide_upd ne] at S2 g2
    have N2 : NSt X.K (hideT T B) p o Hf2 env σ H2 := ⟨hideT_none S.bp, S.po, g2.new p N1.hf (by rw [upd_same]; exact fun w => nomatch w), S2, S.c0⟩
    exact k _ List.mem_cons_self _ o Hf2 H2 ((N2.set h1 (Rp.mono g2.same _ _ r1)).set h2 r2) ((grow_hide (grow_up gg)).tr (grow_up g2))
end
/-! ### promises -/
def spT (K : PySem.W.Frag) (T : Addr) (F : List PyData → Option PyData) : Sp := fun vs H Q _ => ∃ Hf ds d, Sub Hf H ∧ TOk H Hf T ∧ RpA K Hf ds vs ∧ F ds = some d ∧ ∀ v Hf' H', Sub Hf' H' → Same (hideT T H) H' → Grow Hf Hf' (hideT T H) → Rp K Hf' d v → Q v H'
def spNT (K : PySem.W.Frag) (T : Addr) (G : Addr → List PyData → Option (List PyData)) : Sp := fun vs H Q _ => ∃ p o Hf ds outs us, vs = .ref p :: us ∧ H p = some o ∧ PotO o ∧ Hf p = none ∧ Sub Hf H ∧ TOk H Hf T ∧ RpA K Hf ds us ∧ G p ds = some outs ∧
  ∀ d ∈ outs, ∀ v o' Hf' H', PotO o' → Hf' p = none → H' p = some o' → Sub Hf' H' → (∀ a u, a ≠ p → a ≠ T → H a = some u → H' a = some u) → Grow Hf Hf' (hideT T H) → Rp K Hf' d v → Q v H'
section
variable {P : Program} {w : World} {K : PySem.W.Frag} {mg : Str → Option Value} {base : Heap} {params : Arguments} {body : List Stmt} {scope : Scope} {f c T : Addr} {fd : FuncData} {x x0 : Str} {N ps : List Str} {k : Nat} {g : Sx} {gn : Nx}
theorem fn_T (F : FunD K x x params body scope [] [] f fd) (hcd : fd.code = .ref c) (hm : mg x = some (.ref f)) (b : Binds K fd ps []) (S : FnScope N ps scope)
    (hb : ∀ (A : Around) (outer : List Env) (s : Shared) (H : Hp) (E : XK), Room k (cxB P w K mg base N x scope f (.ref c) A outer s H E).A → PSs (cxB P w K mg base N x scope f (.ref c) A outer s H E) body (tST K T g)) : Cal P w K mg base (k + 1) x (spT K T (runF N.length ps.length g)) [] := by
  have len : ∀ vs H Q E, spT K T (runF N.length ps.length g) vs H Q E → vs.length = ps.length := fun vs H Q E ⟨Hf, ds, d, _, _, r, z, _⟩ => by
    unfold runF at z
    split at z
    · rename_i q
      rw [r.length]
      exact Nat.eq_of_beq_eq_true q
    · cases z
  refine ⟨f, fd, ps, [], ⟨len, ?_⟩, hm, F.kp, b, .nil⟩
  obtain ⟨oc, od, dV, kV, doc, pm, an, cdv, ct, osl, rfl, lk, hcd2, _, _⟩ := F.ex
  obtain rfl : cdv = .ref c := hcd
  refine fun A outer s H args us vs Q E hr e0 hb2 r h => LamX.run_ofS lk hcd2 S hr e0 hb2 r (len _ _ _ _ h) fun hr' => ?_
  refine ⟨_, PSs.nox (hb A outer s H E hr'), ?_⟩
  obtain ⟨Hf, ds, d, sb, t, r, z, k⟩ := h
  unfold runF at z
  split at z
  · obtain ⟨o, z1, z2⟩ := Option.bind_eq_some_iff.mp z
    refine ⟨H, Hf, _, o, start_ok sb r, t, z1, ?_⟩
    cases o with
    | nx e =>
      cases z2
      exact fun σ' Hf' H' S' g' => k .non Hf' H' S'.sub S'.base g' rfl
    | rt d =>
      cases z2
      exact fun v Hf' H' sb s' g' r => k v Hf' H' sb s' g' r
  · cases z
theorem fnG_NT (F : FunD K x x params body scope [] [] f fd) (hm : mg x = some (.ref f)) (b : Binds K fd (x0 :: ps) []) (S : FnScope (x0 :: N) (x0 :: ps) scope)
    (hb : ∀ (cdv : Value) (A : Around) (outer : List Env) (s : Shared) (H : Hp) (E : XK), A.guards = some [] → Room k (cxB P w K mg base (x0 :: N) x scope f cdv A outer s H E).A → PSs (cxB P w K mg base (x0 :: N) x scope f cdv A outer s H E) body (tSNT K T gn)) : CalG P w K mg base (k + 1) x (spNT K T (runN (x0 :: N).length ps.length gn)) := by
  have len : ∀ vs H Q E, spNT K T (runN (x0 :: N).length ps.length gn) vs H Q E → vs.length = (x0 :: ps).length := fun vs H Q E ⟨p, o, Hf, ds, outs, us, e, _, _, _, _, _, r, z, _⟩ => by
    unfold runN at z
    split at z
    · rename_i q
      rw [e, List.length_cons, r.length, List.length_cons]
      exact congrArg (· + 1) (Nat.eq_of_beq_eq_true q)
    · cases z
  refine ⟨f, fd, x0 :: ps, fnG_of F S len (fun cdv A outer s H vs Q E hg hr h => ?_), hm, F.kp, b⟩
  refine ⟨_, PSs.nox (hb cdv A outer s H E hg hr), ?_⟩
  obtain ⟨p, o, Hf, ds, outs, us, rfl, hp, po, hf, sb, t, r, z, kk⟩ := h
  unfold runN at z
  split at z
  · obtain ⟨os, z1, z2⟩ := Option.bind_eq_some_iff.mp z
    have pT : T ≠ p := fun w => by
      have e := t.t
      rw [w, hp] at e
      obtain ⟨_, _, eo, _⟩ := po
      rw [eo] at e
      cases e
    have eB : upd (hideT p H) p o = H := by
      funext a
      by_cases ea : a = p
      · subst ea
        rw [upd_same, hp]
      · rw [upd_ne ea, hideT_ne ea]
    refine ⟨hideT p H, p, o, Hf, _, os, ⟨hideT_at, po, hf, by rw [eB]; exact startP_ok sb r, rfl⟩, ⟨by rw [hideT_ne pT]; exact t.t, t.f⟩, z1, fun out ho => ?_⟩
    obtain ⟨d, rfl, hd⟩ := rts_mem z2 ho
    refine fun v o' Hf' H' po' hf' sb' s' g' r' => kk d hd v o' Hf' H' po' hf' (s' p o' upd_same) sb' (fun a u ne nT e => s' a u (by rw [upd_ne ne, hideT_ne nT, hideT_ne ne]; exact e)) ⟨g'.same, fun a fa na => ?_⟩ r'
    by_cases ea : a = p
    · rw [ea]
      exact hf'
    · refine g'.new a fa fun w => na ?_
      by_cases eT : a = T
      · rw [eT]
        exact hideT_at
      · rw [hideT_ne eT]
        rw [hideT_ne eT, hideT_ne ea] at w
        exact w
  · cases z
end
section
variable {X : Cx} {T : Addr} {e e0 : Expr} {es : List Expr} {fs : Nv → Option (List PyData)} {F : List PyData → Option PyData} {G : Addr → List PyData → Option (List PyData)} {x : Str} {p pos : Pos} {j k : Nat}
theorem c_callT (c : Cal X.prog X.w X.K X.mg X.base k x (spT X.K T F) []) (hr : Room j X.A) (hk : k ≤ j) (hg : Gl X x) (ha : PAf X (e :: es) fs) (hdb : (x == ("__debug__" : Str)) = false := by decide)
    (he : starEach (e :: es) X.env = (false, eval e X.env) :: starEach es X.env := by rfl) (hpl : (backTo pos (starEach es X.env)).any (·.1) = false := by rfl) : PE X (.Call (.Name x p) (e :: es) [] pos) (tXT X.K T (fCall fs F)) :=
  pe_imp (pe_c c hr hk hg ha hdb he hpl) fun σ H Q ⟨B, Hf, env, d, S, t, z, q⟩ => by
    obtain ⟨ds, z1, z2⟩ := Option.bind_eq_some_iff.mp z
    refine ⟨B, Hf, env, ds, S, z1, fun vs Hf1 H1 S1 s1 g1 r1 => ?_⟩
    show spT X.K T F (vs ++ []) H1 Q C8.E0
    rw [List.append_nil]
    have gB := g1.toB S.base
    have t1 := t.grow gB
    refine ⟨Hf1, ds, d, S1.sub, ⟨S1.base T _ t.t, t1.f⟩, r1, z2, fun v Hf' H' sb s' g' r => ?_⟩
    exact q v Hf' H' ((st_hide S1 t1).grow sb s' g') ((grow_hide gB).tr (g'.toB (same_hide2 S1.base))) r
theorem n_callT (c : CalG X.prog X.w X.K X.mg X.base k x (spNT X.K T G)) (hgd : X.A.guards = some []) (hr : Room j X.A) (hk : k ≤ j) (hg : Gl X x) (h0 : PE X e0 (tVar 0)) (ha : PAf X es fs) (hdb : (x == ("__debug__" : Str)) = false := by decide)
    (he : starEach (e0 :: es) X.env = (false, eval e0 X.env) :: starEach es X.env := by rfl) (hpl : (backTo pos (starEach es X.env)).any (·.1) = false := by rfl) : PE X (.Call (.Name x p) (e0 :: es) [] pos) (tNXT X.K T (nCall fs G)) :=
  pe_imp (pe_cG c hgd hr hk hg (pa_cons h0 ha he) hdb he hpl) fun σ H Q ⟨B, p, o, Hf, env, outs, S, t, z, q⟩ => by
    obtain ⟨p', z0, z1⟩ := Option.bind_eq_some_iff.mp z
    obtain ⟨ds, z2, z3⟩ := Option.bind_eq_some_iff.mp z1
    have ep : p' = p := by
      unfold potA at z0
      rw [S.c0] at z0
      exact (Option.some.inj z0).symm
    subst ep
    refine ⟨.ref p', S.st.cell 0 _ S.c0, upd B p' o, Hf, env, ds, S.st, z2, fun vs Hf1 H1 S1 s1 g1 r1 => ?_⟩
    have gg := g1.toB S.st.base
    have N1 := S.next S1 gg rfl
    have ne := t.pne S.bp
    have t1 := (t.up (o := o) S.bp).grow gg
    show spNT X.K T G ((V.ref p' :: vs) ++ []) H1 Q C8.E0
    rw [List.append_nil]
    refine ⟨p', o, Hf1, ds, outs, vs, rfl, N1.hp, S.po, N1.hf, S1.sub, ⟨S1.base T _ t1.t, t1.f⟩, r1, z3, fun d hd v o' Hf' H' po hf hp sb s g r => ?_⟩
    have N1' : NSt X.K (hideT T B) p' o Hf1 env σ (hideT T H1) := ⟨hideT_none S.bp, S.po, N1.hf, by rw [← hide_upd ne]; exact st_hide S1 t1, S.c0⟩
    refine q d hd v o' Hf' H' (N1'.after po hf hp sb (fun a u na e => ?_) g) ((grow_hide (grow_up gg)).tr (grow_up (g.toB N1'.st.base))) r
    obtain ⟨nT, e2⟩ := hideT_some e
    exact s a u na nT e2
end
end Q7

-- part Qz
set_option Elab.async false
set_option linter.all false
set_option maxRecDepth 100000
/-! Qz: sorted(rows, key=lambda row: row[:2]). -/
namespace Q7
open PySem PySem.Spec PyProof.Rows L2
open C8 (Cal pe_c)
open PySem.W (dataLt dataLe alike AllAlike Sortable EachIs)

/-! ### the keys -/
mutual
theorem reads_flat {h : Heap} : ∀ (d : PyData), flatD d = true → ∀ (v : Value) (as : List Addr), Reads h v d as → as = []
  | .none, _, _, _, r => by cases r; rfl
  | .bool _, _, _, _, r => by cases r; rfl
  | .int _, _, _, _, r => by cases r; rfl
  | .str _, _, _, _, r => by cases r; rfl
  | .list _, e, _, _, _ => by simp [flatD] at e
  | .tuple ds, e, _, _, r => by
    cases r with
    | tuple _ _ _ q => exact readsAll_flat ds (by simpa [flatD] using e) _ _ q
  | .dict _, e, _, _, _ => by simp [flatD] at e
theorem readsAll_flat {h : Heap} : ∀ (ds : List PyData), flatL ds = true → ∀ (vs : List Value) (as : List Addr), ReadsAll h vs ds as → as = []
  | [], _, _, _, r => by cases r; rfl
  | d :: ds, e, _, _, r => by
    have e2 : flatD d = true ∧ flatL ds = true := by simpa [flatL] using e
    cases r with
    | cons r1 r2 =>
      rw [reads_flat d e2.1 _ _ r1, readsAll_flat ds e2.2 _ _ r2]
      rfl
end
theorem key2_some {d k : PyData} (h : key2 d = some k) : ∃ a b c r, d = .tuple (a :: b :: c :: r) ∧ k = .tuple [a, b] := by
  unfold key2 at h
  split at h
  · cases h
    exact ⟨_, _, _, _, rfl, rfl⟩
  · cases h
theorem keys2_len : ∀ {ds : List PyData} {ks : List (PyData × PyData)}, keys2 ds = some ks → ks.length = ds.length
  | [], _, h => by cases h; rfl
  | d :: r, ks, h => by
    obtain ⟨k, z1, z2⟩ := Option.bind_eq_some_iff.mp (show (key2 d).bind _ = some ks from h)
    obtain ⟨ks2, z3, rfl⟩ := Option.map_eq_some_iff.mp z2
    rw [List.length_cons, List.length_cons, keys2_len z3]
theorem keys2_zip {K : PySem.W.Frag} {Hf : Hp} : ∀ {ds : List PyData} {ks : List (PyData × PyData)} {xs : List V}, keys2 ds = some ks → RpA K Hf ds xs → ∀ b ∈ xs.zip ks, Rp K Hf b.2.2 b.1 ∧ key2 b.2.2 = some b.2.1
  | [], ks, xs, h, r, b, hb => by
    rw [show xs = [] from r] at hb
    cases hb
  | d :: ds, ks, _, h, ⟨x, ys, rfl, rx, ry⟩, b, hb => by
    obtain ⟨k, z1, z2⟩ := Option.bind_eq_some_iff.mp (show (key2 d).bind _ = some ks from h)
    obtain ⟨ks2, z3, rfl⟩ := Option.map_eq_some_iff.mp z2
    rw [List.zip_cons_cons] at hb
    rcases List.mem_cons.mp hb with rfl | hb
    · exact ⟨rx, z1⟩
    · exact keys2_zip z3 ry b hb
theorem insP_perm (i : PyData × PyData) : ∀ r : List (PyData × PyData), (insP i r).Perm (i :: r)
  | [] => .refl _
  | j :: r => by
    unfold insP
    split
    · exact ((insP_perm i r).cons j).trans (.swap i j r)
    · exact .refl _
theorem sortP_perm : ∀ r : List (PyData × PyData), (sortP r).Perm r
  | [] => .refl _
  | i :: r => (insP_perm i _).trans ((sortP_perm r).cons i)
theorem sortP_eq {ks : List (PyData × PyData)} (h : upD ((sortP ks).map Prod.fst) = true) : ks.mergeSort (dataLe false Prod.fst) = sortP ks := by
  have t := PySem.W.sortLe_total (listOrd itemOrd) false fun b : PyData × PyData => PySem.W.keyToks b.1
  have hp : (sortP ks).Pairwise fun a b => dataLt a.1 b.1 = true := List.pairwise_map.mp (upD_pw h)
  have le_of : ∀ a b : PyData × PyData, dataLe false Prod.fst a b = true ↔ dataLt b.1 a.1 = false := fun a b => by
    show (!dataLt b.1 a.1) = true ↔ _
    rw [Bool.not_eq_true']
  have asym : ∀ a b : PyData × PyData, dataLt a.1 b.1 = true → dataLt b.1 a.1 = false := fun a b q => (listOrd itemOrd).klt_asymm q
  refine List.Perm.eq_of_pairwise (le := fun a b => dataLe false Prod.fst a b = true) (fun a b ha hb h1 h2 => ?_) (List.pairwise_mergeSort (fun a b c => t.trans a b c) (fun a b => Bool.or_eq_true_iff.mpr (t.total a b)) ks) (hp.imp fun {a b} q => (le_of a b).mpr (asym a b q)) ((List.mergeSort_perm _ _).trans (sortP_perm ks).symm)
  have ha2 : a ∈ sortP ks := (sortP_perm ks).mem_iff.mpr ((List.mergeSort_perm _ _).mem_iff.mp ha)
  rcases pw_mem hp ha2 hb with e | e | e
  · exact e
  · rw [(le_of b a).mp h2] at e
    cases e
  · rw [(le_of a b).mp h1] at e
    cases e
theorem gSortR_some {d0 d : PyData} (h : gSortR d0 = some d) : ∃ ds ks, d0 = .list ds ∧ keys2 ds = some ks ∧ okSort (ks.map Prod.fst) = true ∧ upD ((sortP ks).map Prod.fst) = true ∧ (∀ b ∈ ks, flatD b.1 = true) ∧ d = .list ((sortP ks).map Prod.snd) := by
  obtain ⟨ds, rfl⟩ : ∃ ds, d0 = .list ds := by
    cases d0 <;> first | exact ⟨_, rfl⟩ | cases h
  obtain ⟨ks, z1, z2⟩ := Option.bind_eq_some_iff.mp (show (keys2 ds).bind _ = some d from h)
  split at z2
  · rename_i q
    obtain ⟨q1, q2⟩ := Bool.and_eq_true_iff.mp q
    obtain ⟨q2, q3⟩ := Bool.and_eq_true_iff.mp q2
    cases z2
    exact ⟨ds, ks, rfl, z1, q1, q2, List.all_eq_true.mp q3, rfl⟩
  · cases z2
theorem each_relG {β : Type} {xs : List V} {us : List Value} {ds : List β} (rv : Vals xs us) (h : xs.length = ds.length) : EachIs (fun (u : Value) (b : V × β) => RelV b.1 u) us (xs.zip ds) := by
  induction rv generalizing ds with
  | nil => exact .nil
  | cons r _ ih =>
    cases ds with
    | nil => cases h
    | cons d ds => exact .cons r (ih (Nat.succ.inj h))
theorem vals_outG {β : Type} {out : List Value} {l : List (V × β)} (e : EachIs (fun (u : Value) (b : V × β) => RelV b.1 u) out l) : Vals (l.map Prod.fst) out := by
  induction e with
  | nil => exact .nil
  | cons r _ ih => exact .cons r ih
theorem canLay_mem {k : PyData} : ∀ {ds : List PyData}, PyData.canLayAll0 ds = true → k ∈ ds → PyData.canLay0 k = true
  | [], _, h => by cases h
  | d :: ds, c, h => by
    have c2 : PyData.canLay0 d = true ∧ PyData.canLayAll0 ds = true := by simpa [PyData.canLayAll0] using c
    rcases List.mem_cons.mp h with rfl | h
    · exact c2.1
    · exact canLay_mem c2.2 h

theorem rpA_ofG {K : PySem.W.Frag} {H : Hp} : ∀ {l : List (V × (PyData × PyData))}, (∀ b ∈ l, Rp K H b.2.2 b.1) → RpA K H (l.map (Prod.snd ∘ Prod.snd)) (l.map Prod.fst)
  | [], _ => rfl
  | b :: l, h => .cons (h b List.mem_cons_self) (rpA_ofG fun c hc => h c (List.mem_cons_of_mem _ hc))

/-! ### a turn: row[:2] -/
section
variable {prog : Program} {w : World} {A : Around} {s : Shared} {q y : Str} {scope : Scope} {f c' a : Addr} {pm ctv : Value} {cl : List (Str × Addr)} {params : Arguments} {p1 p2 p3 p4 : Pos} {j : Nat} {u1 u2 u3 : Value} {us : List Value}
theorem lam_row (hf : s.heap.get? f = some (PySem.W.kla_obj "<lambda>" q params (.Subscript (.Name y p1) (.Slice none (some (.Constant (.int 2) j p3)) none p2) p4) scope cl pm c' ctv)) (hc : s.heap.CodeRec (.ref c') q) (nol : s.heap.NoLimit) (hd : A.depth < recursionLimit)
    (hbind : ∀ v, bindArgs (PySem.W.kla_fn "<lambda>" q params (.Subscript (.Name y p1) (.Slice none (some (.Constant (.int 2) j p3)) none p2) p4) scope cl pm (.ref c') ctv) ⟨[v], []⟩ = pure [(y, v)])
    (hsc : scope.names = [(y, .local)]) (hco : scope.isCoroutine = false) (hgen : scope.isGenerator = false) (hk : scope.kind = .function) (hdb : (y == ("__debug__" : Str)) = false)
    (ht : IsTup s.heap a (u1 :: u2 :: u3 :: us).toArray) (hz : (u1 :: u2 :: u3 :: us).length ≤ sizeLine) :
    wpAny (model prog w) A (call (.ref f) [.ref a]) (fun v s2 => ∃ h' tk p, s2 = { s with heap := h', toks := tk } ∧ (∀ b o, s.heap.get? b = some o → h'.get? b = some o) ∧ v = .ref p ∧ IsTup h' p #[u1, u2]) (fun _ _ => False) s := by
  have hlk : scope.names.lookup y = some .local := by
    rw [hsc]
    simp [List.lookup]
  refine wpAny_call (PySem.W.kla_callFunE hd hf rfl hco hgen rfl hc ?_)
  rw [hbind]
  refine wpAny_pure (wpAny_newFunctionEnv (fun z hz => ?_) (fun z hz => ?_) (fun h₁ hns hsb => ⟨nol.fresh _ hsb, ?_⟩) hk)
  · rw [hsc] at hz
    rw [List.mem_singleton.mp hz]
    exact fun e => nomatch e
  · rw [List.mem_singleton.mp hz]
    exact hlk
  have kp : ∀ b o, s.heap.get? b = some o → h₁.get? b = some o := fun b o e => hsb.extBut b o (Nat.ne_of_lt (Heap.lt_size e)) (Heap.get?_push_of_some _ e)
  show codeAny _ _ (.expr _ (PySem.W.envX q scope s.heap.objs.size f (.ref c') cl)) _ _
  refine PySem.W.kla_codeExpr (Subscript_ (wpAny_Name (wpAny_loadName_local (env := PySem.W.envX q scope s.heap.objs.size f (.ref c') cl) (v := .ref a) hk hlk hns (by simp [List.lookup]) ?_) hdb))
  refine wpAny_Slice ?_
  rw [evalPart_none]
  refine wpAny_pure ?_
  rw [evalPart_some]
  refine wpAny_Constant_int ?_
  refine wpAny_pure ?_
  have ht1 := (ht.keeps kp)
  refine tail_any (T := "tuple") (ops := [.ref h₁.objs.size, .ref a]) (IsTup.typeIs (ht1.keeps fun _ _ e => Heap.get?_push_of_some _ e)) PyProof.Rows.slot_tuple_getitem.lookup ?_ (by with_unfolding_all rfl)
  have hn : HT.sIx (u1 :: u2 :: u3 :: us).toArray.size 0 none = 0 := rfl
  have hh : HT.sIx (u1 :: u2 :: u3 :: us).toArray.size (u1 :: u2 :: u3 :: us).toArray.size (some (2 : Int)) = 2 := by
    rw [show (2 : Int) = ((2 : Nat) : Int) from rfl, HT.sIx_nat]
    simp
  refine HT.getItem_tuple_cut (ht1.keeps fun _ _ e => Heap.get?_push_of_some _ e) (Heap.IsSliceOf.new ..) .none (.int 2 _) (by rw [hh]; simp) ?_ (by simpa using hz)
  rw [hn, hh]
  refine ⟨_, _, _, rfl, fun b o e => Heap.get?_push_of_some _ (Heap.get?_push_of_some _ (kp b o e)), rfl, ?_⟩
  exact IsTup.new _ _
end

/-! ### the making of a lambda, the first time -/
section
variable {X : Cx} {pins : List (Addr × Obj)} {σ : L2.St} {H : Hp} {s : Shared}
theorem lam_new {c T : Addr} {params : Arguments} {body : Expr} {scope : Scope} {pos : Pos} {E : Value → Shared → Prop} {Q : Value → Shared → Prop} (I : Inv X pins σ H s) (TB : LamX.TabB X.base X.mg c T) (hcode : X.env.code = .ref c) (hT : H T = some (.tbl #[]))
    (hdef : defaultsOf params X.env = ([], [])) (hfree : ∀ y ∈ scope.names, y.2 = .free → ∃ c, X.env.cells.lookup y.1 = some c)
    (h : ∀ (g v : Addr) (pm ctv : Value) (H2 : Hp) (s2 : Shared), Inv X pins σ H2 s2 → (∀ b o, b ≠ T → H b = some o → H2 b = some o) →
      s2.heap.get? g = some (PySem.W.kla_obj "<lambda>" (X.env.qual ++ "<lambda>") params body scope (cloFrom X.env.cells scope.names []) pm v ctv) → s2.heap.CodeRec (.ref v) (X.env.qual ++ "<lambda>") → Q (.ref g) s2) :
    wpAny (model X.prog X.w) X.A (eval (.Lambda params body scope pos) X.env) Q E s := by
  refine PySem.W.kla_eval hdef (PySem.W.kla_makeFunction (mg := X.mg) (ps := #[]) (closure_ok hfree) I.ok.glob (I.mod.glob.keeps I.bk) hcode (TB.code.keeps I.bk) (I.hok T _ hT) True.intro rfl TB.gP (TB.bm.keeps I.bk) fun v ctv h1 tk ext ge lt rec tab => ?_)
  obtain ⟨v2, oc, vs, t, ev, g1, g2, g3⟩ := rec
  cases ev
  have fresh : H v = none := I.hok.fresh ge
  refine h h1.objs.size v _ ctv _ _ (LamX.inv_table (t' := tk) I hT (fun b o nb e => Heap.get?_push_of_some _ (ext b o nb e)) (Heap.get?_push_of_some _ tab) ge ⟨oc, vs, t, Heap.get?_push_of_some _ g1, g2, g3⟩) (fun b o nb e => ?_) (Heap.get?_push_size _ rfl) ⟨v, oc, vs, t, rfl, Heap.get?_push_of_some _ g1, g2, g3⟩
  rw [upd_ne (ne_of_none e fresh), upd_ne nb]
  exact e
end
/-! ### the call -/
theorem sql_tab {K : PySem.W.Frag} {H H2 : Hp} {T a : Addr} {xs : List V} (h : SqL K H a xs) (hT : H T = some (.tbl #[])) (s : ∀ b o, b ≠ T → H b = some o → H2 b = some o) : SqL K H2 a xs := by
  rcases h with (h | ⟨o, h⟩) | h
  · exact .inl (.inl (s a _ (fun w => by rw [w, hT] at h; cases h) h))
  · exact .inl (.inr ⟨o, s a _ (fun w => by rw [w, hT] at h; cases h) h⟩)
  · exact .inr h
section
variable {X : Cx} {T c : Addr} {a : Expr} {f : Nv → Option PyData} {p pos kpos lpos p1 p2 p3 p4 : Pos} {y : Str} {j : Nat} {params : Arguments} {scope : Scope}
theorem c_sortL (TB : LamX.TabB X.base X.mg c T) (hcode : X.env.code = .ref c) (hdp : X.A.depth < recursionLimit) (hu : X.A.units + 65 < cLine) (hg : Gl X "sorted") (hm : X.mg "sorted" = none) (ha : PQ X a f) (hdef : defaultsOf params X.env = ([], []))
    (hbind : ∀ (q : Str) (cl : List (Str × Addr)) (pm cv ctv v : Value), bindArgs (PySem.W.kla_fn "<lambda>" q params (.Subscript (.Name y p1) (.Slice none (some (.Constant (.int 2) j p3)) none p2) p4) scope cl pm cv ctv) ⟨[v], []⟩ = pure [(y, v)])
    (hsc : scope.names = [(y, .local)]) (hco : scope.isCoroutine = false) (hgen : scope.isGenerator = false) (hk : scope.kind = .function) (hdb : (y == ("__debug__" : Str)) = false)
    (hs : starEach [a] X.env = (false, eval a X.env) :: starEach [] X.env := by rfl)
    (he : backTo pos (starEach [a] X.env) = (false, eval a X.env) :: backTo pos (starEach [] X.env) := by rfl) (hpl : (backTo pos (starEach [a] X.env)).any (·.1) = false := by rfl) :
    PE X (.Call (.Name "sorted" p) [a] [⟨some (Str.ofString "key"), .Lambda params (.Subscript (.Name y p1) (.Slice none (some (.Constant (.int 2) j p3)) none p2) p4) scope lpos, kpos⟩] pos) (tXT X.K T (u1 f gSortR)) := by
  refine ⟨fun pins s σ H Q I h => ?_⟩
  obtain ⟨B, Hf, env, d, S, t, z, k⟩ := h
  obtain ⟨d0, z0, z1⟩ := Option.bind_eq_some_iff.mp z
  obtain ⟨ds, ks, rfl, hks, ok, up, fl, rfl⟩ := gSortR_some z1
  obtain ⟨o1, o2, o3, o4, o5⟩ := ok_sort ok
  refine wpAny_Call_Name_kw (ld_blt I hg hm boot_sorted ?_ (by decide) (by decide))
  refine PyProof.Rows.callWith_kw (thn ((pa_cons ha pa_nil hs).run pos pins s σ H (fun vs H1 => ∃ x Hf1, vs = [x] ∧ StOk X.K B Hf1 env σ H1 ∧ Grow Hf Hf1 B ∧ RQ X.K H Hf1 H1 (.list ds) x) I ⟨B, Hf, env, _, S, z0, fun x Hf1 H1 S1 s1 g1 r1 => ⟨x, Hf1, rfl, S1, g1.toB S.base, r1⟩⟩) fun us s1 ⟨vs, H1, I1, rv, q1⟩ => ?_) he hpl rfl rfl
  obtain ⟨x, Hf1, rfl, S1, g1, r1⟩ := q1
  obtain ⟨l, xs, rfl, hl, rk⟩ := rq_lst S1 r1
  obtain rfl := Vals.ref1 rv
  have t1 := t.grow g1
  have hT : H1 T = some (.tbl #[]) := S1.base T _ t.t
  show wpAny _ _ (evalAll [(do let v ← eval (.Lambda params (.Subscript (.Name y p1) (.Slice none (some (.Constant (.int 2) j p3)) none p2) p4) scope lpos) X.env; standAt pos; pure v)]) _ _ s1
  refine wpAny_evalAll_cons (wpAny_bind (lam_new I1 TB hcode hT hdef (fun z hz e => ?_) fun g c' pm ctv H2 s2 I2 s12 hgo hrec => wpAny_bind (wpAny_standAt (wpAny_pure (wpAny_evalAll_nil ?_)))))
  · rw [hsc] at hz
    rw [List.mem_singleton.mp hz] at e
    cases e
  have S2 := st_tab S1 t.ne t1.f s12
  have hl2 := sql_tab hl hT s12
  obtain ⟨its, rvs, hli, hz⟩ := I2.list hl2
  have elen : xs.length = ks.length := by rw [rk.length, keys2_len hks]
  have ez : ((xs.zip ks).map fun b => b.2.1) = ks.map Prod.fst := by
    rw [← zip_snd (α := V) elen, List.map_map, zip_snd (α := V) elen]
    rfl
  show wpAny _ _ (call (.builtin "sorted") [.ref l] [(Str.ofString "key", .ref g)]) _ _ s2
  refine PySem.W.sorted_key_data (β := V × (PyData × PyData)) (b := false) (bs := xs.zip ks) (fun b => b.2.1) hli.isList (each_relG rvs elen) (by rw [ez]; exact o1) (by rw [ez]; exact o2) (by rw [List.length_zip, ← elen, Nat.min_self]; exact hz) (fun b hb => ?_) (PyProof.Rows.ksk_s1 _ _) (fun _ => PyProof.Rows.ksk_l1 _ _) (fun _ => PyProof.Rows.ksk_t1 _ _) (fun v b hR hb h tk kp => ?_) fun out e' h' tk kp hn hD ho eo => ?_
  · have := o3 b.2.1 (by rw [← ez]; exact List.mem_map.mpr ⟨b, hb, rfl⟩)
    omega
  · obtain ⟨rp, hk2⟩ := keys2_zip hks rk b hb
    obtain ⟨d1, d2, d3, dr, e1, e2⟩ := key2_some hk2
    have mk : b.2.1 ∈ ks.map Prod.fst := by rw [← ez]; exact List.mem_map.mpr ⟨b, hb, rfl⟩
    have cl := canLay_mem o5 mk
    have fk : flatD b.2.1 = true := by
      obtain ⟨b2, h1, h2⟩ := List.mem_map.mp mk
      rw [← h2]
      exact fl b2 h1
    rw [e1] at rp
    rw [e2] at cl fk ⊢
    obtain ⟨ad, ys, eb, hy, ry⟩ := rp
    rw [eb] at hR
    obtain rfl : v = .ref ad := hR
    obtain ⟨x1, y1, rfl, rx1, ry⟩ := ry
    obtain ⟨x2, y2, rfl, rx2, ry⟩ := ry
    obtain ⟨x3, y3, rfl, rx3, ry⟩ := ry
    obtain ⟨its2, rv2, ht2, hz2⟩ := I2.tuple (S2.sub.tup hy)
    have c1 : PyData.canLay0 d1 = true ∧ PyData.canLay0 d2 = true := by simpa [PyData.canLay0, PyData.canLayAll0] using cl
    have f1 : flatD d1 = true ∧ flatD d2 = true := by simpa [flatD, flatL] using fk
    have hlen := rv2.length
    cases rv2 with
    | cons q1 rv2 =>
      cases rv2 with
      | cons q2 rv2 =>
        cases rv2 with
        | cons q3 rv2 =>
          obtain ⟨as1, w1⟩ := Dp.reads I2 d1 _ _ (rp_dp S2.sub d1 _ c1.1 rx1) q1
          obtain ⟨as2, w2⟩ := Dp.reads I2 d2 _ _ (rp_dp S2.sub d2 _ c1.2 rx2) q2
          obtain rfl := reads_flat d1 f1.1 _ _ w1
          obtain rfl := reads_flat d2 f1.2 _ _ w2
          refine wpAny_mono (lam_row (s := { s2 with heap := h, toks := tk }) (kp _ _ hgo) (hrec.keeps kp) (I2.nolimit.keeps kp) hdp (hbind _ _ _ _ _) hsc hco hgen hk hdb (ht2.keeps kp) (by rw [← hlen]; exact hz2)) (fun u s3 ⟨h3, tk3, p3, e3, k3, e4, ⟨o, g1, g2, n, g3⟩⟩ => ?_) fun _ _ hF => hF
          subst e4
          exact ⟨h3, tk3, e3, k3, Reads.tuple g1 g2 g3 (ReadsAll.cons (PyProof.Rows.Reads.keeps (fun b o e => k3 b o (kp b o e)) w1) (ReadsAll.cons (PyProof.Rows.Reads.keeps (fun b o e => k3 b o (kp b o e)) w2) ReadsAll.nil))⟩
  · have lenO : (((xs.zip ks).mergeSort (dataLe false fun b => b.2.1)).map Prod.fst).length ≤ sizeLine := by
      rw [List.length_map, (List.mergeSort_perm _ _).length_eq, List.length_zip, ← elen, Nat.min_self]
      exact hz
    have fr : H2 (s2.heap.objs.size + 1) = none := I2.hok.fresh (Nat.le_succ _)
    have fr1 : Hf1 (s2.heap.objs.size + 1) = none := S2.hfree fr
    refine ⟨.ref _, upd H2 (s2.heap.objs.size + 1) (.lst (((xs.zip ks).mergeSort (dataLe false fun b => b.2.1)).map Prod.fst)), I2.laid (t' := tk) kp (Nat.le_succ _) ⟨lenO, out, e', vals_outG eo, hD⟩, rfl, ?_⟩
    have gn : Grow Hf1 (upd Hf1 (s2.heap.objs.size + 1) (.lst (((xs.zip ks).mergeSort (dataLe false fun b => b.2.1)).map Prod.fst))) H2 := grow_new fr S2.sub
    refine k _ _ _ (S2.newF fr) ((grow_hide g1).tr (gn.toB S2.base)) ⟨_, _, rfl, .inl (.inl upd_same), ?_⟩
    have es : ((xs.zip ks).mergeSort (dataLe false fun b => b.2.1)).map Prod.snd = sortP ks := (PySem.W.sort_maps (r := dataLe false fun b : V × (PyData × PyData) => b.2.1) (s := dataLe false (Prod.fst : PyData × PyData → PyData)) (Prod.snd : V × (PyData × PyData) → PyData × PyData) (fun a _ b _ => rfl)).trans (by rw [zip_snd (α := V) elen, sortP_eq up])
    rw [← es, List.map_map]
    have hall : ∀ b ∈ (xs.zip ks).mergeSort (dataLe false fun b => b.2.1), Rp X.K (upd Hf1 (s2.heap.objs.size + 1) (.lst (((xs.zip ks).mergeSort (dataLe false fun b => b.2.1)).map Prod.fst))) b.2.2 b.1 := fun b hb => Rp.mono gn.same _ _ (keys2_zip hks rk b ((List.mergeSort_perm _ _).mem_iff.mp hb)).1
    revert hall
    generalize (xs.zip ks).mergeSort (dataLe false fun b => b.2.1) = L
    intro hall
    exact rpA_ofG hall
end
end Q7

-- part Ru
set_option Elab.async false
set_option linter.all false
set_option maxRecDepth 100000
set_option maxHeartbeats 0
namespace Q7
open PySem PySem.Spec PyProof.Rows L2
open C8 (Cal pe_c)
section
variable {P : Program} {w : World} {K : PySem.W.Frag} {mg : Str → Option Value} {base : Heap} {f c T : Addr} {fd : FuncData}
theorem sortR_list (f : Nv → Option PyData) : ∀ env d, u1 f gSortR env = some d → ∃ ds, d = .list ds := fun env d z => by
  obtain ⟨d0, _, z1⟩ := Option.bind_eq_some_iff.mp z
  obtain ⟨_, _, _, _, _, _, _, e⟩ := gSortR_some z1
  exact ⟨_, e⟩
theorem cal__law_chosen (M : Mg mg) (FD : FunD K "_law_chosen" "_law_chosen" (defArgs (top 146)) (defBody (top 146)) (defScope (top 146)) [] [] f fd) (hcd : fd.code = .ref c) (TB : LamX.TabB base mg c T) (hm : mg "_law_chosen" = some (.ref f)) (c__law_are_beside : CF P w K mg base 3 "_law_are_beside" F__law_are_beside) (c__law_choices : CF P w K mg base 2 "_law_choices" F__law_choices) (c__law_place : CF P w K mg base 4 "_law_place" F__law_place) (c__law_power_sum : CF P w K mg base 1 "_law_power_sum" F__law_power_sum) (c__law_product : CF P w K mg base 1 "_law_product" F__law_product) : Cal P w K mg base 5 "_law_chosen" (spT K T F__law_chosen) [] := by
  rw [hx__law_chosen]
  exact fn_T (g := g__law_chosen) (k := 4) FD hcd hm (FD.bindsN fun _ _ _ _ _ _ us hl => match us, hl with | [_, _, _, _, _], _ => rfl) sc__law_chosen fun A outer s H E hr =>
    have nd := sc__law_chosen.nd
    have hu4 := room4 hr
    have hu5 := room5 hr
    lt_a (s_setO (i := 5) nd rfl (Or.inl rfl) (c_lst (a_nil))) (lt_a (s_for PassesOwn.never rfl (i_sq (c_call bkF c__law_choices hr (by decide) rfl (a_cons (c_nF (pv 3)) (a_cons (c_nF (pv 4)) (a_cons (c_call bkF c__law_power_sum hr (by decide) rfl (a_cons (c_nF (pv 0)) (a_nil))) (a_nil)))))) (g_nm (pg_name nd rfl (by first | exact Or.inl rfl | exact Or.inr rfl) (i := 6))) (l_cons (s_setF (i := 8) nd rfl (Or.inl rfl) (c_call bkF c__law_place hr (by decide) rfl (a_cons (c_nF (pv 0)) (a_cons (c_nF (pv 1)) (a_cons (c_nF (pv 2)) (a_cons (c_nF (pv 6)) (a_nil))))))) (l_one (s_if (b_w (w_and (b_notN (c_nQ (pv 8)) (qF (c_none))) (w_and1 (b_le (c_nQ (pv 8)) (qF (c_int)))))) (l_one (s_app (pe_bm PySem.F.plainAttrs_list PySem.F.slot_list_append PySem.F.type_list_append mt_append (pv 5) (pa_cons (c_tup (a_cons (c_nF (pv 8)) (a_cons (c_call bkF c__law_product hr (by decide) rfl (a_cons (c_nF (pv 6)) (a_nil))) (a_cons (c_nF (pv 6)) (a_nil))))) pa_nil)))) (l_nil))))) (lt_a (s_setO (i := 7) nd rfl (Or.inl rfl) (c_lst (a_nil))) (lt_b (s_forT PassesOwn.never rfl (c_sortL TB rfl hr.depth hu5 rfl M.b_sorted (c_nQ (pv 5)) rfl (fun _ _ _ _ _ _ => rfl) rfl rfl rfl rfl rfl) (sortR_list _) (g_tup rfl (gs_cons (g_nm (pg_name nd rfl (by first | exact Or.inl rfl | exact Or.inr rfl) (i := 8))) (gs_cons (g_nm (pg_name nd rfl (by first | exact Or.inl rfl | exact Or.inr rfl) (i := 9))) (gs_cons (g_nm (pg_name nd rfl (by first | exact Or.inl rfl | exact Or.inr rfl) (i := 6))) (gs_nil))))) (l_one (s_if (b_w (w_and (b_lt (qF (c_len rfl M.b_len (c_nQ (pv 7)))) (qF (c_int))) (w_and1 (b_w (w_or (b_eqE hu4 (c_nQ (pv 7)) (qO (c_lst (a_nil)))) (w_or1 (b_w (w_and (b_gt (c_nQ (pv 8)) (qF (c_ix hu4 (qF (c_ix hu4 (c_nQ (pv 7)) (qF (c_neg (qF (c_int)))) (fun _ _ => rfl))) (qF (c_int)) (fun _ _ => rfl)))) (w_and1 (b_val (c_call bkF c__law_are_beside hr (by decide) rfl (a_cons (c_nF (pv 6)) (a_cons (c_ix hu4 (qF (c_ix hu4 (c_nQ (pv 7)) (qF (c_int)) (fun _ _ => rfl))) (qF (c_int)) (fun _ _ => rfl)) (a_cons (c_nF (pv 3)) (a_nil))))))))))))))) (l_one (s_app (pe_bm PySem.F.plainAttrs_list PySem.F.slot_list_append PySem.F.type_list_append mt_append (pv 7) (pa_cons (c_tup (a_cons (c_nF (pv 8)) (a_cons (c_nF (pv 9)) (a_cons (c_nF (pv 6)) (a_nil))))) pa_nil)))) (l_nil)))) (l_one (s_fz 7 (s_retF (c_nF (pv 7))))))))
end
end Q7

-- part Rn
set_option Elab.async false
set_option linter.all false
set_option maxRecDepth 100000
set_option maxHeartbeats 0
namespace Q7
open PySem PySem.Spec PyProof.Rows L2
open C8 (Cal pe_c)
abbrev CN (P : Program) (w : World) (K : PySem.W.Frag) (mg : Str → Option Value) (base : Heap) (k : Nat) (x : Str) (G : Addr → List PyData → Option (List PyData)) : Prop := Cal P w K mg base k x (spN K G) []
section
variable {P : Program} {w : World} {K : PySem.W.Frag} {mg : Str → Option Value} {base : Heap} {f : Addr} {fd : FuncData}
noncomputable def g__law_pick : Nx := nRet (nIx (nF 1) (nCall (aCons (u1 (nQ 1) gLen) (aNil)) gDraw))
noncomputable def G__law_pick : Addr → List PyData → Option (List PyData) := runN 2 1 g__law_pick
theorem sc__law_pick : FnScope ["_law_pot_here", "_law_some"] ["_law_pot_here", "_law_some"] (defScope (top 113)) := ⟨rfl, rfl, rfl, by decide +kernel, rfl, by decide +kernel, by decide +kernel⟩
theorem cal__law_pick (M : Mg mg) (FD : FunD K "_law_pick" "_law_pick" (defArgs (top 113)) (defBody (top 113)) (defScope (top 113)) [] [] f fd) (hm : mg "_law_pick" = some (.ref f)) (c__law_draw : CN P w K mg base 1 "_law_draw" gDraw) : CN P w K mg base 2 "_law_pick" G__law_pick :=
  fn_N (g := g__law_pick) (k := 1) FD hm (FD.bindsN fun _ _ _ _ _ _ us hl => match us, hl with | [_, _], _ => rfl) sc__law_pick fun cdv A outer s H E hr =>
    have nd := sc__law_pick.nd
    have hu4 := room4 hr
    have hu5 := room5 hr
    nl_one (n_ret (n_ix hu4 (c_nF (pv 1)) (n_call c__law_draw hr (by decide) rfl (pv 0) (a_cons (c_len rfl M.b_len (c_nQ (pv 1))) (a_nil))) (fun _ _ => rfl)))
noncomputable def g__law_small : Nx := nCons (one1 (sSetO 1 (kD (.dict [])))) (nCons (nFor (sqOf (fLst (aCons (kD (.int 1)) (aCons (kD (.int 2)) (aCons (kD (.int 3)) (aNil)))))) (bNm 2) (nCons (nSet 3 (nCall (aCons (fLst (aCons (kD (.int 0)) (aCons (kD (.int 0)) (aCons (kD (.int 1)) (aCons (u1 (kD (.int 1)) aNeg) (aCons (kD (.int 2)) (aCons (u1 (kD (.int 2)) aNeg) (aNil)))))))) (aNil)) G__law_pick)) (one1 (sIf (oB (b2 (nQ 3) (kD (.int 0)) cNe)) (sSt 1 (nQ 2) (nF 3) putK') (sNil))))) (one1 (sFz 1 (sRet (nF 1)))))
noncomputable def G__law_small : Addr → List PyData → Option (List PyData) := runN 4 0 g__law_small
theorem sc__law_small : FnScope ["_law_pot_here", "_law_found", "_law_step", "_law_power"] ["_law_pot_here"] (defScope (top 141)) := ⟨rfl, rfl, rfl, by decide +kernel, rfl, by decide +kernel, by decide +kernel⟩
theorem cal__law_small (M : Mg mg) (FD : FunD K "_law_small" "_law_small" (defArgs (top 141)) (defBody (top 141)) (defScope (top 141)) [] [] f fd) (hm : mg "_law_small" = some (.ref f)) (c__law_pick : CN P w K mg base 2 "_law_pick" G__law_pick) : CN P w K mg base 3 "_law_small" G__law_small :=
  fn_N (g := g__law_small) (k := 2) FD hm (FD.bindsN fun _ _ _ _ _ _ us hl => match us, hl with | [_], _ => rfl) sc__law_small fun cdv A outer s H E hr =>
    have nd := sc__law_small.nd
    have hu4 := room4 hr
    have hu5 := room5 hr
    nl_cons (n_st (s_setO (i := 1) nd rfl (Or.inl rfl) (c_dct0)) (kp_setO)) (nl_cons (n_for (kb_nm) PassesOwn.never rfl (i_sq (fO (c_lst (a_cons (c_int) (a_cons (c_int) (a_cons (c_int) (a_nil))))))) (g_nm (pg_name nd rfl (by first | exact Or.inl rfl | exact Or.inr rfl) (i := 2))) (nl_cons (n_set (i := 3) (by decide) nd rfl (Or.inl rfl) (n_call c__law_pick hr (by decide) rfl (pv 0) (a_cons (fO (c_lst (a_cons (c_int) (a_cons (c_int) (a_cons (c_int) (a_cons (c_neg (qF (c_int))) (a_cons (c_int) (a_cons (c_neg (qF (c_int))) (a_nil))))))))) (a_nil)))) (nl_one (n_st (s_if (b_ne hu4 (c_nQ (pv 3)) (qF (c_int))) (l_one (s_dput hu4 (pv 1) (c_nQ (pv 2)) (c_nF (pv 3)) rfl)) (l_nil)) (kp_if (kp_st) (kp_nil)))))) (nl_one (n_st (s_fz 1 (s_retF (c_nF (pv 1)))) (kp_fz (kp_ret)))))
noncomputable def g__law_made : Nx := nCons (nPar2 3 1 (nCall (aCons (fLst (aCons (kD (.int 2)) (aCons (kD (.int 3)) (aCons (kD (.int 4)) (aCons (kD (.int 5)) (aNil)))))) (aNil)) G__law_pick) (nCall (aNil) G__law_small)) (nCons (nIfS (fun env => ((nCall (aCons (kD (.int 2)) (aNil)) gDraw) env).bind (eqs 0)) (nCons (one1 (sSetO 4 (kD (.dict [])))) (nCons (one1 (sFor (ksOf (nF 1)) (bNm 2) (sSt 4 (b2 (nQ 2) (nQ 3) aMul) (b2 (nQ 1) (nQ 2) gIx) putK'))) (one1 (sFz 4 (sRet (fTup (aCons (nF 4) (aCons (nF 3) (aCons (kD (.int 0)) (aCons (fLst (aCons (fTup (aCons (kD (.int 1)) (aCons (nF 1) (aNil)))) (aNil))) (aNil))))))))))) (nNil)) (nCons (nAsg (nCall (aCons (fLst (aCons (fTup (aCons (kD (.int 5)) (aCons (kD (.int 4)) (aCons (fLst (aCons (fTup (aCons (kD (.int 5)) (aCons (fDct2 (kD (.int 1)) (u1 (kD (.int 6)) aNeg) (kD (.int 5)) (kD (.int 5))) (aNil)))) (aNil))) (aNil))))) (aCons (fTup (aCons (kD (.int 7)) (aCons (kD (.int 5)) (aCons (fLst (aCons (fTup (aCons (kD (.int 7)) (aCons (fDct2 (kD (.int 1)) (u1 (kD (.int 4)) aNeg) (kD (.int 7)) (kD (.int 3))) (aNil)))) (aCons (fTup (aCons (kD (.int 49)) (aCons (fDct2 (kD (.int 1)) (u1 (kD (.int 8)) aNeg) (kD (.int 7)) (kD (.int 7))) (aNil)))) (aNil)))) (aNil))))) (aNil)))) (aNil)) G__law_pick) (bTup 3 (bsCons (bNm 3) (bsCons (bNm 5) (bsCons (bNm 6) (bsNil)))))) (nCons (one1 (sPar2 4 7 true true (fDct (kD (.int 1)) (u1 (kD (.int 1)) aNeg)) (kD (.dict [])))) (nCons (one1 (sSet 1 (fDct (kD (.int 1)) (b3 (nQ 1) (kD (.int 1)) (kD (.int 0)) gGet)))) (nCons (one1 (sFor (ksOf (nF 1)) (bNm 2) (sSt 4 (b2 (nQ 2) (nQ 3) aMul) (b2 (nQ 1) (nQ 2) gIx) putK'))) (nCons (one1 (sFor (enOf (nF 6)) (bTup 2 (bsCons (bNm 8) (bsCons (bTup 2 (bsCons (bNm 9) (bsCons (bNm 10) (bsNil)))) (bsNil)))) (sSt 7 (nQ 8) (fTup (aCons (nF 9) (aCons (fCall (aCons (nF 10) (aCons (nF 1) (aNil))) F__law_both) (aNil)))) putK'))) (one1 (sFz 4 (sRet (fTup (aCons (nF 4) (aCons (nF 3) (aCons (nF 5) (aCons (fLc (sqOf (u1 (nQ 7) gSortK)) (bNm 8) (bYes) (b2 (nQ 7) (nQ 8) gIx) [8]) (aNil)))))))))))))))
noncomputable def G__law_made : Addr → List PyData → Option (List PyData) := runN 11 0 g__law_made
theorem sc__law_made : FnScope ["_law_pot_here", "_law_by", "_law_step", "_law_m", "_law_powers", "_law_t", "_law_terms", "_law_late", "_law_at", "_law_number", "_law_one"] ["_law_pot_here"] (defScope (top 139)) := ⟨rfl, rfl, rfl, by decide +kernel, rfl, by decide +kernel, by decide +kernel⟩
theorem cal__law_made (M : Mg mg) (FD : FunD K "_law_made" "_law_made" (defArgs (top 139)) (defBody (top 139)) (defScope (top 139)) [] [] f fd) (hm : mg "_law_made" = some (.ref f)) (c__law_both : CF P w K mg base 1 "_law_both" F__law_both) (c__law_draw : CN P w K mg base 1 "_law_draw" gDraw) (c__law_pick : CN P w K mg base 2 "_law_pick" G__law_pick) (c__law_small : CN P w K mg base 3 "_law_small" G__law_small) : CN P w K mg base 4 "_law_made" G__law_made :=
  fn_N (g := g__law_made) (k := 3) FD hm (FD.bindsN fun _ _ _ _ _ _ us hl => match us, hl with | [_], _ => rfl) sc__law_made fun cdv A outer s H E hr =>
    have nd := sc__law_made.nd
    have hu4 := room4 hr
    have hu5 := room5 hr
    nl_cons (n_par2 (i := 3) (j := 1) (by decide) (by decide) rfl nd rfl rfl (by decide) rfl rfl (n_call c__law_pick hr (by decide) rfl (pv 0) (a_cons (fO (c_lst (a_cons (c_int) (a_cons (c_int) (a_cons (c_int) (a_cons (c_int) (a_nil))))))) (a_nil))) (n_call c__law_small hr (by decide) rfl (pv 0) (a_nil)) rfl) (nl_cons (n_ifS (n_eq (n_call c__law_draw hr (by decide) rfl (pv 0) (a_cons (c_int) (a_nil)))) (nl_cons (n_st (s_setO (i := 4) nd rfl (Or.inl rfl) (c_dct0)) (kp_setO)) (nl_cons (n_st (s_forK lkF PassesOwn.never rfl (pv 1) (g_nm (pg_name nd rfl (by first | exact Or.inl rfl | exact Or.inr rfl) (i := 2))) (l_one (s_dput hu4 (pv 4) (qF (c_mul (c_nQ (pv 2)) (c_nQ (pv 3)))) (c_ix hu4 (c_nQ (pv 1)) (c_nQ (pv 2)) (fun _ _ => rfl)) rfl))) (kp_for (kb_nm) (kp_st))) (nl_one (n_st (s_fz 4 (s_retF (c_tup (a_cons (c_nF (pv 4)) (a_cons (c_nF (pv 3)) (a_cons (c_int) (a_cons (fO (c_lst (a_cons (c_tup (a_cons (c_int) (a_cons (c_nF (pv 1)) (a_nil)))) (a_nil)))) (a_nil)))))))) (kp_fz (kp_ret)))))) (nl_nil)) (nl_cons (n_asg (kb_tup (ks_cons (kb_nm) (ks_cons (kb_nm) (ks_cons (kb_nm) (ks_nil))))) (n_call c__law_pick hr (by decide) rfl (pv 0) (a_cons (fO (c_lst (a_cons (c_tup (a_cons (c_int) (a_cons (c_int) (a_cons (fO (c_lst (a_cons (c_tup (a_cons (c_int) (a_cons (fO (c_dct2 (c_int) (c_neg (qF (c_int))) (c_int) (c_int))) (a_nil)))) (a_nil)))) (a_nil))))) (a_cons (c_tup (a_cons (c_int) (a_cons (c_int) (a_cons (fO (c_lst (a_cons (c_tup (a_cons (c_int) (a_cons (fO (c_dct2 (c_int) (c_neg (qF (c_int))) (c_int) (c_int))) (a_nil)))) (a_cons (c_tup (a_cons (c_int) (a_cons (fO (c_dct2 (c_int) (c_neg (qF (c_int))) (c_int) (c_int))) (a_nil)))) (a_nil))))) (a_nil))))) (a_nil))))) (a_nil))) (g_tup rfl (gs_cons (g_nm (pg_name nd rfl (by first | exact Or.inl rfl | exact Or.inr rfl) (i := 3))) (gs_cons (g_nm (pg_name nd rfl (by first | exact Or.inl rfl | exact Or.inr rfl) (i := 5))) (gs_cons (g_nm (pg_name nd rfl (by first | exact Or.inl rfl | exact Or.inr rfl) (i := 6))) (gs_nil)))))) (nl_cons (n_st (s_parT2 (o1 := true) (o2 := true) (i := 4) (j := 7) (c_dct1 (c_int) (c_neg (qF (c_int)))) (c_dct0) (pg_tup rfl (pgs_cons (pg_name nd rfl (Or.inl rfl) (i := 4)) (pgs_cons (pg_name nd rfl (Or.inr rfl) (i := 7)) (pgs_nil))))) (kp_par2)) (nl_cons (n_st (s_setF (i := 1) nd rfl (Or.inl rfl) (fO (c_dct1 (c_int) (c_get hu4 (c_nQ (pv 1)) (qF (c_int)) (c_int) ⟨rfl, rfl, rfl, rfl⟩)))) (kp_set)) (nl_cons (n_st (s_forK lkF PassesOwn.never rfl (pv 1) (g_nm (pg_name nd rfl (by first | exact Or.inl rfl | exact Or.inr rfl) (i := 2))) (l_one (s_dput hu4 (pv 4) (qF (c_mul (c_nQ (pv 2)) (c_nQ (pv 3)))) (c_ix hu4 (c_nQ (pv 1)) (c_nQ (pv 2)) (fun _ _ => rfl)) rfl))) (kp_for (kb_nm) (kp_st))) (nl_cons (n_st (s_for PassesOwn.never rfl (i_enum rfl M.b_enumerate (c_nF (pv 6))) (g_tup rfl (gs_cons (g_nm (pg_name nd rfl (by first | exact Or.inl rfl | exact Or.inr rfl) (i := 8))) (gs_cons (g_tup rfl (gs_cons (g_nm (pg_name nd rfl (by first | exact Or.inl rfl | exact Or.inr rfl) (i := 9))) (gs_cons (g_nm (pg_name nd rfl (by first | exact Or.inl rfl | exact Or.inr rfl) (i := 10))) (gs_nil)))) (gs_nil)))) (l_one (s_dput hu4 (pv 7) (c_nQ (pv 8)) (c_tup (a_cons (c_nF (pv 9)) (a_cons (c_call bkF c__law_both hr (by decide) rfl (a_cons (c_nF (pv 10)) (a_cons (c_nF (pv 1)) (a_nil)))) (a_nil)))) rfl))) (kp_for (kb_tup (ks_cons (kb_nm) (ks_cons (kb_tup (ks_cons (kb_nm) (ks_cons (kb_nm) (ks_nil)))) (ks_nil)))) (kp_st))) (nl_one (n_st (s_fz 4 (s_retF (c_tup (a_cons (c_nF (pv 4)) (a_cons (c_nF (pv 3)) (a_cons (c_nF (pv 5)) (a_cons (fO (c_lc (own := [("_law_at", 8)]) rfl nd (i_sq (fO (c_sortK rfl rfl M.b_sorted (c_nQ (pv 7))))) (blkOk_by (N := ["_law_pot_here", "_law_by", "_law_step", "_law_m", "_law_powers", "_law_t", "_law_terms", "_law_late", "_law_at", "_law_number", "_law_one"]) (sc := defScope (top 139)) (by decide +kernel)) (fun _ _ _ _ _ => g_nm (pg_name nd rfl (by first | exact Or.inl rfl | exact Or.inr rfl) (i := 8))) (fun _ _ _ _ _ => t_nil) (fun _ _ _ _ _ => c_ix hu4 (c_nQ (pv 7)) (c_nQ (pv 8)) (fun _ _ => rfl)) (by decide))) (a_nil)))))))) (kp_fz (kp_ret))))))))))
end
end Q7

-- part Rp
set_option Elab.async false
set_option linter.all false
set_option maxRecDepth 100000
set_option maxHeartbeats 0
namespace Q7
open PySem PySem.Spec PyProof.Rows L2
open C8 (Cal pe_c)
section
variable {P : Program} {w : World} {K : PySem.W.Frag} {mg : Str → Option Value} {base : Heap} {f : Addr} {fd : FuncData}
noncomputable def g__law_pot : Sx := sCons (sSet 2 (b2 (b2 (kD (.int 1097)) (nQ 1) aMul) (kD (.int 787)) aAdd)) (sCons (sIf (oB (b2 (nQ 1) (u1 (nQ 0) gLen) cLt)) (sSet 2 (u1 (b2 (nQ 0) (nQ 1) gIx) gAbs)) (sNil)) (sRet (fLst (aCons (b2 (kD (.int 0)) (b2 (nQ 2) (b2 (kD (.int 10)) (kD (.int 18)) aPow) aSub) gMax2) (aCons (b2 (b2 (u1 (b2 (b2 (b2 (b2 (u1 (nQ 2) gInt) (kD (.int 2147483549)) aMod) (kD (.int 48271)) aMul) (b2 (kD (.int 4259)) (nQ 1) aMul) aAdd) (kD (.int 17)) aAdd) gInt) (kD (.int 2147483563)) aMod) (kD (.int 1)) aAdd) (aNil))))))
noncomputable def h__law_pot : Sx := xsCons (xsSet 2 (xb2 (xb2 (kD (.int 1097)) (xnQ 1) xMul) (kD (.int 787)) xAdd)) (xsCons (xsIf (xoB (xb2 (xnQ 1) (xu1 (xnQ 0) gLen) xLt)) (xsSet 2 (xu1 (xb2 (xnQ 0) (xnQ 1) xIx) xAbs)) (sNil)) (xsRet (fLst (xaCons (xb2 (kD (.int 0)) (xb2 (xnQ 2) (xb2 (kD (.int 10)) (kD (.int 18)) aPow) xSub) gMax2) (xaCons (xb2 (xb2 (xu1 (xb2 (xb2 (xb2 (xb2 (xu1 (xnQ 2) xInt) (kD (.int 2147483549)) xMod) (kD (.int 48271)) xMul) (xb2 (kD (.int 4259)) (xnQ 1) xMul) xAdd) (kD (.int 17)) xAdd) xInt) (kD (.int 2147483563)) xMod) (kD (.int 1)) xAdd) (aNil))))))
noncomputable def F__law_pot : List PyData → Option PyData := xrunO 3 2 h__law_pot
theorem hx__law_pot : F__law_pot = runO 3 2 g__law_pot := by
  unfold F__law_pot
  rw [xrunO_eq]
  congr 1
  unfold h__law_pot g__law_pot
  simp only [xAbs_eq, xAdd_eq, xInt_eq, xIx_eq, xLt_eq, xMod_eq, xMul_eq, xSub_eq, xaCons_eq, xb2_eq, xnQ_eq, xoB_eq, xsCons_eq, xsIf_eq, xsRet_eq, xsSet_eq, xu1_eq]
theorem sc__law_pot : FnScope ["_law_script", "_law_k", "_law_cell"] ["_law_script", "_law_k"] (defScope (top 111)) := ⟨rfl, rfl, rfl, by decide +kernel, rfl, by decide +kernel, by decide +kernel⟩
theorem cal__law_pot (M : Mg mg) (FD : FunD K "_law_pot" "_law_pot" (defArgs (top 111)) (defBody (top 111)) (defScope (top 111)) [] [] f fd) (hm : mg "_law_pot" = some (.ref f))  : CO P w K mg base 1 "_law_pot" F__law_pot := by
  rw [hx__law_pot]
  exact fn_O (g := g__law_pot) (k := 0) FD hm (FD.bindsN fun _ _ _ _ _ _ us hl => match us, hl with | [_, _], _ => rfl) sc__law_pot fun cdv A outer s H E hr =>
    have nd := sc__law_pot.nd
    have hu4 := room4 hr
    have hu5 := room5 hr
    l_cons (s_setF (i := 2) nd rfl (Or.inl rfl) (c_add (qF (c_mul (qF (c_int)) (c_nQ (pv 1)))) (qF (c_int)))) (l_cons (s_if (b_lt (c_nQ (pv 1)) (qF (c_len rfl M.b_len (c_nQ (pv 0))))) (l_one (s_setF (i := 2) nd rfl (Or.inl rfl) (c_abs rfl M.b_abs (qF (c_ix hu4 (c_nQ (pv 0)) (c_nQ (pv 1)) (fun _ _ => rfl)))))) (l_nil)) (l_one (s_retO (c_lst (a_cons (c_max2 rfl rfl M.b_max (qF (c_int)) (qF (c_sub (c_nQ (pv 2)) (qF (c_pow (qF (c_int)) (qF (c_int))))))) (a_cons (c_add (qF (c_mod (qF (c_int1 rfl M.b_int (qF (c_add (qF (c_add (qF (c_mul (qF (c_mod (qF (c_int1 rfl M.b_int (c_nQ (pv 2)))) (qF (c_int)))) (qF (c_int)))) (qF (c_mul (qF (c_int)) (c_nQ (pv 1)))))) (qF (c_int)))))) (qF (c_int)))) (qF (c_int))) (a_nil)))))))
theorem calK_found_terms (M : Mg mg) (FD : FunD K "found_terms" "found_terms" (defArgs (top 107)) (defBody (top 107)) (defScope (top 107)) [] [] f fd) (hm : mg "found_terms" = some (.ref f)) (c_are_right : CF P w K mg base 5 "are_right" F_are_right) (c_found_of : CF P w K mg base 8 "found_of" F_found_of) (c_is_list : CF P w K mg base 1 "is_list" F_is_list) (c_is_product_value : CF P w K mg base 3 "is_product_value" F_is_product_value) (c_want_section : CF P w K mg base 5 "want_section" F_want_section) : CalK P w K mg base 9 "found_terms" (spF K (RF K) F_found_terms) ["products", "t", "m", "product"] := by
  rw [hx_found_terms]
  exact fnk_F (g := g_found_terms) (k := 8) FD hm (FD.bindsK fun _ _ _ _ _ _ ws hl => match ws, hl with | [_, _, _, _], _ => rfl) sc_found_terms fun cdv A outer s H E hr =>
    have nd := sc_found_terms.nd
    have hu4 := room4 hr
    have hu5 := room5 hr
    l_cons (s_expr (c_call bkF c_want_section hr (by decide) rfl (a_cons (c_nF (pv 0)) (a_cons (c_nF (pv 1)) (a_cons (c_nF (pv 2)) (a_nil)))))) (l_cons (s_if (b_w (w_or (b_not (b_val (c_call bkF c_is_list hr (by decide) rfl (a_cons (c_nF (pv 3)) (a_nil))))) (w_or1 (b_not (b_ch op_le op_le (qF (c_int)) (qF (c_len rfl M.b_len (c_nQ (pv 3)))) (qF (c_gint rfl M.c_MOST_TERMS))))))) (l_no) (l_nil)) (l_cons (s_if (b_w (w_or (b_not (b_val (c_all rfl rfl M.b_all (qO (c_lc (own := [("one", 4)]) rfl nd (i_sq (c_nF (pv 3))) (blkOk_by (N := ["product", "m", "t", "products", "one"]) (sc := defScope (top 107)) (by decide +kernel)) (fun _ _ _ _ _ => g_nm (pg_name nd rfl (by first | exact Or.inl rfl | exact Or.inr rfl) (i := 4))) (fun _ _ _ _ _ => t_nil) (fun _ _ _ _ _ => c_call bkF c_is_product_value hr (by decide) rfl (a_cons (c_nF (pv 4)) (a_nil))) (by decide)))))) (w_or1 (b_not (b_val (c_call bkF c_are_right hr (by decide) rfl (a_cons (c_nF (pv 0)) (a_cons (c_nF (pv 1)) (a_cons (c_nF (pv 2)) (a_cons (c_nF (pv 3)) (a_nil))))))))))) (l_no) (l_nil)) (l_one (s_retF (c_call bkF c_found_of hr (by decide) rfl (a_cons (c_nF (pv 0)) (a_cons (c_nF (pv 1)) (a_cons (c_nF (pv 2)) (a_cons (fO (c_list rfl rfl M.b_list (c_nQ (pv 3)))) (a_nil))))))))))
theorem calK_candidates (M : Mg mg) (FD : FunD K "candidates" "candidates" (defArgs (top 108)) (defBody (top 108)) (defScope (top 108)) [] [] f fd) (hm : mg "candidates" = some (.ref f)) (c_chosen_of : CO P w K mg base 5 "chosen_of" F_chosen_of) (c_want_choices : CF P w K mg base 3 "want_choices" F_want_choices) (c_want_level : CF P w K mg base 3 "want_level" F_want_level) (c_want_section : CF P w K mg base 5 "want_section" F_want_section) (c_want_size : CF P w K mg base 3 "want_size" F_want_size) : CalK P w K mg base 6 "candidates" (spF K (RO K) F_candidates) ["many", "level", "t", "m", "product"] := by
  rw [hx_candidates]
  exact fnk_O (g := g_candidates) (k := 5) FD hm (FD.bindsK fun _ _ _ _ _ _ ws hl => match ws, hl with | [_, _, _, _, _], _ => rfl) sc_candidates fun cdv A outer s H E hr =>
    have nd := sc_candidates.nd
    have hu4 := room4 hr
    have hu5 := room5 hr
    l_cons (s_expr (c_call bkF c_want_section hr (by decide) rfl (a_cons (c_nF (pv 0)) (a_cons (c_nF (pv 1)) (a_cons (c_nF (pv 2)) (a_nil)))))) (l_cons (s_expr (c_call bkF c_want_level hr (by decide) rfl (a_cons (c_nF (pv 3)) (a_nil)))) (l_cons (s_expr (c_call bkF c_want_size hr (by decide) rfl (a_cons (c_nF (pv 4)) (a_nil)))) (l_one (s_retO (c_call bkO c_chosen_of hr (by decide) rfl (a_cons (c_nF (pv 0)) (a_cons (c_nF (pv 1)) (a_cons (c_nF (pv 2)) (a_cons (c_nF (pv 3)) (a_cons (c_call bkF c_want_choices hr (by decide) rfl (a_cons (c_nF (pv 3)) (a_cons (c_nF (pv 4)) (a_nil)))) (a_cons (c_nF (pv 4)) (a_nil))))))))))))
end
end Q7

-- part Rq
set_option Elab.async false
set_option linter.all false
set_option maxRecDepth 100000
set_option maxHeartbeats 0
namespace Q7
open PySem PySem.Spec PyProof.Rows L2
open C8 (Cal pe_c)
section
variable {P : Program} {w : World} {K : PySem.W.Frag} {mg : Str → Option Value} {base : Heap} {f T : Addr} {fd : FuncData}
noncomputable def g__law_looked_right : Nx := nCons (nAsg (nCall (aCons (fLst (aCons (fTup (aCons (kD (.int 5)) (aCons (kD (.int 4)) (aCons (kD (.int 5)) (aCons (kD (.int 6)) (aNil)))))) (aCons (fTup (aCons (kD (.int 5)) (aCons (kD (.int 4)) (aCons (kD (.int 5)) (aCons (kD (.int 4)) (aNil)))))) (aCons (fTup (aCons (kD (.int 7)) (aCons (kD (.int 5)) (aCons (kD (.int 7)) (aCons (kD (.int 8)) (aNil)))))) (aCons (fTup (aCons (kD (.int 2)) (aCons (kD (.int 0)) (aCons (kD (.int 2)) (aCons (kD (.int 3)) (aNil)))))) (aCons (fTup (aCons (kD (.int 3)) (aCons (kD (.int 0)) (aCons (kD (.int 3)) (aCons (kD (.int 2)) (aNil)))))) (aCons (fTup (aCons (kD (.int 1)) (aCons (kD (.int 0)) (aCons (kD (.int 2)) (aCons (kD (.int 4)) (aNil)))))) (aNil)))))))) (aNil)) G__law_pick) (bTup 4 (bsCons (bNm 4) (bsCons (bNm 5) (bsCons (bNm 6) (bsCons (bNm 7) (bsNil))))))) (nCons (nSet 1 (nIf (one1 (oB (b2 (nQ 4) (kD (.int 3)) cGt))) (one1 (fDct (kD (.int 1)) (u1 (kD (.int 1)) aNeg))) (nDct (nF 4) (nCall (aCons (fLst (aCons (kD (.int 1)) (aCons (u1 (kD (.int 1)) aNeg) (aCons (kD (.int 2)) (aNil))))) (aNil)) G__law_pick)))) (nCons (one1 (sPar2 8 9 false false (fCall (aCons (nF 1) (aNil)) F__law_product) (fCall (aCons (nF 1) (aCons (nF 4) (aCons (nF 5) (aCons (nF 6) (aCons (nF 7) (aNil)))))) F__law_chosen))) (nCons (one1 (sSetO 2 (fCall (aCons (nF 8) (aCons (nF 4) (aCons (nF 5) (aCons (nF 6) (aCons (nF 7) (aNil)))))) F_candidates))) (nCons (one1 (sIf (oB (b2 (nQ 2) (fLc (sqOf (nF 9)) (bNm 10) (bYes) (slT (nQ 10) (noP) (soP (kD (.int 2)))) [10]) gSameN)) (sRet (kD (.bool false))) (sNil))) (nCons (one1 (sApp 2 (kD .none))) (nCons (one1 (sIf (oB (b2 (fCallK (aCons (nF 7) (aCons (nF 6) (aCons (nF 5) (aCons (nF 4) (aCons (nF 8) (aNil)))))) F_candidates) (fLc (sqOf (nF 9)) (bNm 10) (bYes) (slT (nQ 10) (noP) (soP (kD (.int 2)))) [10]) gSameN)) (sRet (kD (.bool false))) (sNil))) (nCons (one1 (sSet 3 (iF (oB (b2 (nQ 9) (fLst (aNil)) cNeE)) (fCall (aCons (nF 1) (aCons (nF 4) (aCons (nF 5) (aCons (fLc (sqOf (nF 9)) (bNm 10) (bYes) (b2 (nQ 10) (kD (.int 2)) gIx) [10]) (aNil))))) F__law_due) (kD .none)))) (one1 (sRet (vOr (b2 (nQ 3) (kD (.str "long")) cEq) (b2 (fCall (aCons (nF 8) (aCons (nF 4) (aCons (nF 5) (aCons (nF 6) (aCons (nF 7) (aNil)))))) F_looked) (nQ 3) gSame)))))))))))
noncomputable def G__law_looked_right : Addr → List PyData → Option (List PyData) := runN 11 0 g__law_looked_right
theorem sc__law_looked_right : FnScope ["_law_pot_here", "_law_powers", "_law_told_here", "_law_own", "_law_m", "_law_t", "_law_level", "_law_most", "_law_product_here", "_law_due_here", "_law_row_here"] ["_law_pot_here"] (defScope (top 147)) := ⟨rfl, rfl, rfl, by decide +kernel, rfl, by decide +kernel, by decide +kernel⟩
theorem cal__law_looked_right (M : Mg mg) (FD : FunD K "_law_looked_right" "_law_looked_right" (defArgs (top 147)) (defBody (top 147)) (defScope (top 147)) [] [] f fd) (hm : mg "_law_looked_right" = some (.ref f)) (c__law_chosen : Cal P w K mg base 5 "_law_chosen" (spT K T F__law_chosen) []) (c__law_due : CF P w K mg base 7 "_law_due" F__law_due) (c__law_pick : CN P w K mg base 2 "_law_pick" G__law_pick) (c__law_product : CF P w K mg base 1 "_law_product" F__law_product) (c_candidates : CO P w K mg base 6 "candidates" F_candidates) (c_looked : CF P w K mg base 9 "looked" F_looked) (ck_candidates : CalK P w K mg base 6 "candidates" (spF K (RO K) F_candidates) ["many", "level", "t", "m", "product"]) : CalG P w K mg base 10 "_law_looked_right" (spNT K T G__law_looked_right) :=
  fnG_NT (gn := g__law_looked_right) (k := 9) FD hm (FD.bindsN fun _ _ _ _ _ _ us hl => match us, hl with | [_], _ => rfl) sc__law_looked_right fun cdv A outer s H E hgd hr =>
    have nd := sc__law_looked_right.nd
    have hu4 := room4 hr
    have hu5 := room5 hr
    nt_a (n_asg (kb_tup (ks_cons (kb_nm) (ks_cons (kb_nm) (ks_cons (kb_nm) (ks_cons (kb_nm) (ks_nil)))))) (n_call c__law_pick hr (by decide) rfl (pv 0) (a_cons (fO (c_lst (a_cons (c_tup (a_cons (c_int) (a_cons (c_int) (a_cons (c_int) (a_cons (c_int) (a_nil)))))) (a_cons (c_tup (a_cons (c_int) (a_cons (c_int) (a_cons (c_int) (a_cons (c_int) (a_nil)))))) (a_cons (c_tup (a_cons (c_int) (a_cons (c_int) (a_cons (c_int) (a_cons (c_int) (a_nil)))))) (a_cons (c_tup (a_cons (c_int) (a_cons (c_int) (a_cons (c_int) (a_cons (c_int) (a_nil)))))) (a_cons (c_tup (a_cons (c_int) (a_cons (c_int) (a_cons (c_int) (a_cons (c_int) (a_nil)))))) (a_cons (c_tup (a_cons (c_int) (a_cons (c_int) (a_cons (c_int) (a_cons (c_int) (a_nil)))))) (a_nil))))))))) (a_nil))) (g_tup rfl (gs_cons (g_nm (pg_name nd rfl (by first | exact Or.inl rfl | exact Or.inr rfl) (i := 4))) (gs_cons (g_nm (pg_name nd rfl (by first | exact Or.inl rfl | exact Or.inr rfl) (i := 5))) (gs_cons (g_nm (pg_name nd rfl (by first | exact Or.inl rfl | exact Or.inr rfl) (i := 6))) (gs_cons (g_nm (pg_name nd rfl (by first | exact Or.inl rfl | exact Or.inr rfl) (i := 7))) (gs_nil))))))) (nt_a (n_set (i := 1) (by decide) nd rfl (Or.inl rfl) (n_if (n_B (b_gt (c_nQ (pv 4)) (qF (c_int)))) (n_F (fO (c_dct1 (c_int) (c_neg (qF (c_int)))))) (n_dct (c_nF (pv 4)) (n_call c__law_pick hr (by decide) rfl (pv 0) (a_cons (fO (c_lst (a_cons (c_int) (a_cons (c_neg (qF (c_int))) (a_cons (c_int) (a_nil)))))) (a_nil)))))) (nt_b (n_par2T (i := 8) (j := 9) (by decide) (by decide) rfl nd rfl rfl (by decide) rfl rfl (c_call bkF c__law_product hr (by decide) rfl (a_cons (c_nF (pv 1)) (a_nil))) (c_callT c__law_chosen hr (by decide) rfl (a_cons (c_nF (pv 1)) (a_cons (c_nF (pv 4)) (a_cons (c_nF (pv 5)) (a_cons (c_nF (pv 6)) (a_cons (c_nF (pv 7)) (a_nil))))))) rfl) (nl_cons (n_st (s_setO (i := 2) nd rfl (Or.inl rfl) (c_call bkO c_candidates hr (by decide) rfl (a_cons (c_nF (pv 8)) (a_cons (c_nF (pv 4)) (a_cons (c_nF (pv 5)) (a_cons (c_nF (pv 6)) (a_cons (c_nF (pv 7)) (a_nil)))))))) (kp_setO)) (nl_cons (n_st (s_if (b_sameN hgd hu5 rfl M.b_repr (c_nQ (pv 2)) (qO (c_lc (own := [("_law_row_here", 10)]) rfl nd (i_sq (c_nF (pv 9))) (blkOk_by (N := ["_law_pot_here", "_law_powers", "_law_told_here", "_law_own", "_law_m", "_law_t", "_law_level", "_law_most", "_law_product_here", "_law_due_here", "_law_row_here"]) (sc := defScope (top 147)) (by decide +kernel)) (fun _ _ _ _ _ => g_nm (pg_name nd rfl (by first | exact Or.inl rfl | exact Or.inr rfl) (i := 10))) (fun _ _ _ _ _ => t_nil) (fun _ _ _ _ _ => c_slT (c_nQ (pv 10)) (p_no) (p_so (qF (c_int)))) (by decide)))) (l_one (s_retF (c_bool))) (l_nil)) (kp_if (kp_ret) (kp_nil))) (nl_cons (n_st (s_app (pe_bm PySem.F.plainAttrs_list PySem.F.slot_list_append PySem.F.type_list_append mt_append (pv 2) (pa_cons (c_none) pa_nil))) (kp_app)) (nl_cons (n_st (s_if (b_sameN hgd hu5 rfl M.b_repr (qO (c_callK bkO ck_candidates hr (by decide) rfl (k_cons (c_nF (pv 7)) (k_cons (c_nF (pv 6)) (k_cons (c_nF (pv 5)) (k_cons (c_nF (pv 4)) (k_cons (c_nF (pv 8)) (k_nil)))))))) (qO (c_lc (own := [("_law_row_here", 10)]) rfl nd (i_sq (c_nF (pv 9))) (blkOk_by (N := ["_law_pot_here", "_law_powers", "_law_told_here", "_law_own", "_law_m", "_law_t", "_law_level", "_law_most", "_law_product_here", "_law_due_here", "_law_row_here"]) (sc := defScope (top 147)) (by decide +kernel)) (fun _ _ _ _ _ => g_nm (pg_name nd rfl (by first | exact Or.inl rfl | exact Or.inr rfl) (i := 10))) (fun _ _ _ _ _ => t_nil) (fun _ _ _ _ _ => c_slT (c_nQ (pv 10)) (p_no) (p_so (qF (c_int)))) (by decide)))) (l_one (s_retF (c_bool))) (l_nil)) (kp_if (kp_ret) (kp_nil))) (nl_cons (n_st (s_setF (i := 3) nd rfl (Or.inl rfl) (c_if (b_neE hu4 (c_nQ (pv 9)) (qO (c_lst (a_nil)))) (c_call bkF c__law_due hr (by decide) rfl (a_cons (c_nF (pv 1)) (a_cons (c_nF (pv 4)) (a_cons (c_nF (pv 5)) (a_cons (fO (c_lc (own := [("_law_row_here", 10)]) rfl nd (i_sq (c_nF (pv 9))) (blkOk_by (N := ["_law_pot_here", "_law_powers", "_law_told_here", "_law_own", "_law_m", "_law_t", "_law_level", "_law_most", "_law_product_here", "_law_due_here", "_law_row_here"]) (sc := defScope (top 147)) (by decide +kernel)) (fun _ _ _ _ _ => g_nm (pg_name nd rfl (by first | exact Or.inl rfl | exact Or.inr rfl) (i := 10))) (fun _ _ _ _ _ => t_nil) (fun _ _ _ _ _ => c_ix hu4 (c_nQ (pv 10)) (qF (c_int)) (fun _ _ => rfl)) (by decide))) (a_nil)))))) (c_none))) (kp_set)) (nl_one (n_st (s_retF (c_or (c_eq hu4 (c_nQ (pv 3)) (qF (c_str))) (c_one (c_same hgd hu5 rfl M.b_repr (qF (c_call bkF c_looked hr (by decide) rfl (a_cons (c_nF (pv 8)) (a_cons (c_nF (pv 4)) (a_cons (c_nF (pv 5)) (a_cons (c_nF (pv 6)) (a_cons (c_nF (pv 7)) (a_nil)))))))) (c_nQ (pv 3)))))) (kp_ret))))))))))
noncomputable def a__law_right : Nx := nIfS (fun env => ((nCall (aCons (kD (.int 3)) (aNil)) gDraw) env).bind (eqs 0)) (nRet (nCall (aNil) G__law_looked_right)) (nNil)
noncomputable def r__law_right : Nx := nCons (one1 (sFzA 1 (sSetO 1 (fLc (sqOf (nF 7)) (bTup 2 (bsCons (bNm 11) (bsCons (bNm 10) (bsNil)))) (bYes) (nF 10) [11, 10])))) (nCons (nIfS (nAnd (oB (b2 (u1 (nQ 1) gLen) (kD (.int 2)) cEq)) (fun env => ((nCall (aCons (kD (.int 2)) (aNil)) gDraw) env).bind (eqs 0))) (one1 (sSet 1 (slL (nQ 1) (noP) (soP (kD (.int 1)))))) (nNil)) (nCons (one1 (sPar2 8 9 false false (fCall (aCons (nF 4) (aCons (nF 5) (aCons (nF 6) (aCons (nF 1) (aNil))))) F__law_due) (fCall (aCons (nF 4) (aNil)) F__law_product))) (nCons (one1 (sIf (oB (b2 (nQ 8) (kD (.str "long")) cEq)) (sRet (kD (.bool true))) (sNil))) (nCons (one1 (sFzA 2 (sSetO 2 (fLc (sqOf (nF 1)) (bNm 10) (bYes) (fCall (aCons (nF 10) (aNil)) F__law_product) [10])))) (nCons (nSet 3 (nIf (fun env => ((nCall (aCons (kD (.int 2)) (aNil)) gDraw) env).bind (eqs 0)) (one1 (fCall (aCons (nF 9) (aCons (nF 5) (aCons (nF 6) (aCons (nF 2) (aNil))))) F_found_terms)) (one1 (fCallK (aCons (u1 (nQ 2) gTupl) (aCons (nF 6) (aCons (nF 5) (aCons (nF 9) (aNil))))) F_found_terms)))) (one1 (sRet (b2 (nQ 3) (nQ 8) gSame))))))))
noncomputable def g__law_right : Nx := nCons a__law_right (nCons (nAsg (nCall (aNil) G__law_made) (bTup 4 (bsCons (bNm 4) (bsCons (bNm 5) (bsCons (bNm 6) (bsCons (bNm 7) (bsNil))))))) r__law_right)
noncomputable def G__law_right : Addr → List PyData → Option (List PyData) := runN 12 0 g__law_right
theorem sc__law_right : FnScope ["_law_pot_here", "_law_some", "_law_products", "_law_told_here", "_law_powers", "_law_m", "_law_t", "_law_terms", "_law_due_here", "_law_product_here", "_law_one", "_law_number"] ["_law_pot_here"] (defScope (top 148)) := ⟨rfl, rfl, rfl, by decide +kernel, rfl, by decide +kernel, by decide +kernel⟩
theorem cal__law_right (M : Mg mg) (FD : FunD K "_law_right" "_law_right" (defArgs (top 148)) (defBody (top 148)) (defScope (top 148)) [] [] f fd) (hm : mg "_law_right" = some (.ref f)) (c__law_draw : CN P w K mg base 1 "_law_draw" gDraw) (c__law_due : CF P w K mg base 7 "_law_due" F__law_due) (c__law_looked_right : CalG P w K mg base 10 "_law_looked_right" (spNT K T G__law_looked_right)) (c__law_made : CN P w K mg base 4 "_law_made" G__law_made) (c__law_product : CF P w K mg base 1 "_law_product" F__law_product) (c_found_terms : CF P w K mg base 9 "found_terms" F_found_terms) (ck_found_terms : CalK P w K mg base 9 "found_terms" (spF K (RF K) F_found_terms) ["products", "t", "m", "product"]) : CalG P w K mg base 11 "_law_right" (spNT K T G__law_right) :=
  fnG_NT (gn := g__law_right) (k := 10) FD hm (FD.bindsN fun _ _ _ _ _ _ us hl => match us, hl with | [_], _ => rfl) sc__law_right fun cdv A outer s H E hgd hr =>
    have nd := sc__law_right.nd
    have hu4 := room4 hr
    have hu5 := room5 hr
    nt_b (n_ifST (n_eq (n_call c__law_draw hr (by decide) rfl (pv 0) (a_cons (c_int) (a_nil)))) (nt_one (n_retT (n_callT c__law_looked_right hgd hr (by decide) rfl (pv 0) (a_nil)))) nt_nil) (nl_cons (n_asg (kb_tup (ks_cons (kb_nm) (ks_cons (kb_nm) (ks_cons (kb_nm) (ks_cons (kb_nm) (ks_nil)))))) (n_call c__law_made hr (by decide) rfl (pv 0) (a_nil)) (g_tup rfl (gs_cons (g_nm (pg_name nd rfl (by first | exact Or.inl rfl | exact Or.inr rfl) (i := 4))) (gs_cons (g_nm (pg_name nd rfl (by first | exact Or.inl rfl | exact Or.inr rfl) (i := 5))) (gs_cons (g_nm (pg_name nd rfl (by first | exact Or.inl rfl | exact Or.inr rfl) (i := 6))) (gs_cons (g_nm (pg_name nd rfl (by first | exact Or.inl rfl | exact Or.inr rfl) (i := 7))) (gs_nil))))))) (nl_cons (n_st (s_fzA (s_lc (i := 1) (own := [("_law_number", 11), ("_law_one", 10)]) rfl nd rfl rfl rfl (i_sq (c_nF (pv 7))) (blkOk_by (N := ["_law_pot_here", "_law_some", "_law_products", "_law_told_here", "_law_powers", "_law_m", "_law_t", "_law_terms", "_law_due_here", "_law_product_here", "_law_one", "_law_number"]) (sc := defScope (top 148)) (by decide +kernel)) (fun _ _ _ _ _ => g_tup rfl (gs_cons (g_nm (pg_name nd rfl (by first | exact Or.inl rfl | exact Or.inr rfl) (i := 11))) (gs_cons (g_nm (pg_name nd rfl (by first | exact Or.inl rfl | exact Or.inr rfl) (i := 10))) (gs_nil)))) (fun _ _ _ _ _ => t_nil) (fun _ _ _ _ _ => c_nF (pv 10)) (by decide))) (kp_fzA (kp_setO))) (nl_cons (n_ifS (n_and (b_eq hu4 (qF (c_len rfl M.b_len (c_nQ (pv 1)))) (qF (c_int))) (n_eq (n_call c__law_draw hr (by decide) rfl (pv 0) (a_cons (c_int) (a_nil))))) (nl_one (n_st (s_setF (i := 1) nd rfl (Or.inl rfl) (fO (c_slL (c_nQ (pv 1)) (p_no) (p_so (qF (c_int)))))) (kp_set))) (nl_nil)) (nl_cons (n_st (s_par2 (o1 := false) (o2 := false) (i := 8) (j := 9) rfl nd rfl rfl (by decide) rfl rfl (c_call bkF c__law_due hr (by decide) rfl (a_cons (c_nF (pv 4)) (a_cons (c_nF (pv 5)) (a_cons (c_nF (pv 6)) (a_cons (c_nF (pv 1)) (a_nil)))))) (c_call bkF c__law_product hr (by decide) rfl (a_cons (c_nF (pv 4)) (a_nil))) rfl) (kp_par2)) (nl_cons (n_st (s_if (b_eq hu4 (c_nQ (pv 8)) (qF (c_str))) (l_one (s_retF (c_bool))) (l_nil)) (kp_if (kp_ret) (kp_nil))) (nl_cons (n_st (s_fzA (s_lc (i := 2) (own := [("_law_one", 10)]) rfl nd rfl rfl rfl (i_sq (c_nF (pv 1))) (blkOk_by (N := ["_law_pot_here", "_law_some", "_law_products", "_law_told_here", "_law_powers", "_law_m", "_law_t", "_law_terms", "_law_due_here", "_law_product_here", "_law_one", "_law_number"]) (sc := defScope (top 148)) (by decide +kernel)) (fun _ _ _ _ _ => g_nm (pg_name nd rfl (by first | exact Or.inl rfl | exact Or.inr rfl) (i := 10))) (fun _ _ _ _ _ => t_nil) (fun _ _ _ _ _ => c_call bkF c__law_product hr (by decide) rfl (a_cons (c_nF (pv 10)) (a_nil))) (by decide))) (kp_fzA (kp_setO))) (nl_cons (n_set (i := 3) (by decide) nd rfl (Or.inl rfl) (n_if (n_eq (n_call c__law_draw hr (by decide) rfl (pv 0) (a_cons (c_int) (a_nil)))) (n_F (c_call bkF c_found_terms hr (by decide) rfl (a_cons (c_nF (pv 9)) (a_cons (c_nF (pv 5)) (a_cons (c_nF (pv 6)) (a_cons (c_nF (pv 2)) (a_nil))))))) (n_F (c_callK bkF ck_found_terms hr (by decide) rfl (k_cons (c_tuple rfl M.b_tuple (c_nQ (pv 2))) (k_cons (c_nF (pv 6)) (k_cons (c_nF (pv 5)) (k_cons (c_nF (pv 9)) (k_nil))))))))) (nl_one (n_st (s_retF (c_same hgd hu5 rfl M.b_repr (c_nQ (pv 3)) (c_nQ (pv 8)))) (kp_ret))))))))))
end
end Q7

-- part Ql0
set_option Elab.async false
set_option linter.all false
set_option maxRecDepth 100000
set_option maxHeartbeats 2000000
/-! Ql0: the law's end, a table of code objects and no guards. -/
namespace Q7
open PySem PySem.Spec PyProof.Rows L2
open C8 (Cal pe_c)

section
variable {P : Program} {w : World} {K : PySem.W.Frag} {mg mb : Str → Option Value} {k : Nat} {fa a c T : Addr} {fd : FuncData} {x : Str} {sp : Sp} {s : Shared} {vs : List Value} {ns : List Int}
abbrev scrO (vs : List Value) : Obj := { cls := .type "list", data := .seq vs.toArray }
abbrev tab0 : Obj := { cls := .none, data := .fields #[] }
/-- the script, if the head does not hold it itself -/
def scrH (K : PySem.W.Frag) (a : Addr) (vs : List Value) (ns : List Int) : Option HO := match K.lookup a with
  | some _ => none
  | none => some (.frz (scrO vs) (.lst (ns.map V.int)))
def H00 (K : PySem.W.Frag) (a T : Addr) (vs : List Value) (ns : List Int) : Hp := fun b => if b = T then some (.tbl #[]) else if b = a then scrH K a vs ns else none
theorem scrH_some {u : HO} (h : scrH K a vs ns = some u) : K.lookup a = none ∧ u = .frz (scrO vs) (.lst (ns.map V.int)) := by
  unfold scrH at h
  cases q : K.lookup a with
  | some o =>
    rw [q] at h
    cases h
  | none =>
    rw [q] at h
    cases h
    exact ⟨rfl, rfl⟩
theorem H00_T : H00 K a T vs ns T = some (.tbl #[]) := if_pos rfl
theorem H00_none {b : Addr} (h1 : b ≠ T) (h2 : b ≠ a) : H00 K a T vs ns b = none := (if_neg h1).trans (if_neg h2)
theorem H00_some {b : Addr} {u : HO} (h : H00 K a T vs ns b = some u) : (b = T ∧ u = .tbl #[]) ∨ (b ≠ T ∧ b = a ∧ K.lookup a = none ∧ u = .frz (scrO vs) (.lst (ns.map V.int))) := by
  unfold H00 at h
  split at h
  · rename_i e
    cases h
    exact .inl ⟨e, rfl⟩
  · rename_i e
    split at h
    · rename_i e2
      obtain ⟨q1, q2⟩ := scrH_some h
      exact .inr ⟨e, e2, q1, q2⟩
    · cases h
theorem law_callG (KX : K.In s.heap) (hns : s.heap.Ns mainGlobals mg) (hb : s.heap.Ns builtinsNs mb) (hbb : ∀ x : Str, x ≠ "__name__" → mb x = bootBuiltins x) (hlim : s.heap.NoLimit) (hg : s.gens = #[])
    (hT : s.heap.get? T = some tab0) (nT : K.lookup T = none) (C : PySem.W.CodeHd s.heap c T)
    (hbm : ∃ (bm : Addr) (ob : Obj), mg "__builtins__" = some (.ref bm) ∧ bm ≠ builtinsNs ∧ s.heap.get? bm = some ob ∧ ob.cls = .type "module" ∧ ob.dict = some builtinsNs ∧ ob.data = .plain)
    (ha : s.heap.get? a = some (scrO vs)) (hi : IntsAre vs ns) (hl : ns.length ≤ sizeLine) (hr : Room k callerA)
    (F : ∀ base : Heap, K.In base → base.Ns mainGlobals mg → LamX.TabB base mg c T → FnG P w K mg base k fa fd [x] sp) (hbind : ∀ (s : Shared) (u : Value), BindsTo s fd ⟨[u], []⟩ [(x, u)])
    (hsp : ∀ H : Hp, H T = some (.tbl #[]) → SqL K H a (ns.map V.int) → sp [.ref a] H (fun v _ => v = .bl true) fun _ _ _ => False) :
    codeAny (model P w) callerA (.call (.ref fa) ⟨[.ref a], []⟩) (fun r s' => r = .ok (.ret (.bool true)) ∧ OldK s.heap s'.heap ∧ s'.os = s.os ∧ AllBare s'.gens) s := by
  have rv := vals_ints hi
  have aT : a ≠ T := fun z => by
    rw [z, hT] at ha
    have q := congrArg Obj.data (Option.some.inj ha)
    cases q
  have atA : H00 K a T vs ns a = scrH K a vs ns := (if_neg aT).trans (if_pos rfl)
  have hS : SqL K (H00 K a T vs ns) a (ns.map V.int) := by
    cases q : K.lookup a with
    | some o =>
      have e := KX a o q
      rw [ha] at e
      cases e
      exact .inr ⟨_, vs.toArray, _, q, rfl, rfl, rfl, by rw [List.size_toArray, hi.length]; exact hl, by simpa using rv⟩
    | none =>
      refine .inl (.inr ⟨scrO vs, ?_⟩)
      rw [atA]
      unfold scrH
      rw [q]
  have hok : HOk P w (H00 K a T vs ns) s.heap := fun b u z => by
    rcases H00_some z with ⟨e, eu⟩ | ⟨_, e, _, eu⟩
    · rw [e, eu]
      exact hT
    · rw [e, eu]
      exact ⟨ha, by rw [List.length_map]; exact hl, vs, _, rv, ha⟩
  -- objects of another kind are not told of
  have off : ∀ {b : Addr} {o : Obj}, s.heap.get? b = some o → (∀ us n, o.data = .seq us n → False) → (o.data = .fields #[] → False) → H00 K a T vs ns b = none := fun {b o} e h1 h2 => by
    refine H00_none (fun z => ?_) fun z => ?_
    · rw [z, hT] at e
      exact h2 (by rw [← Option.some.inj e])
    · rw [z, ha] at e
      exact h1 _ _ (by rw [← Option.some.inj e])
  have put : ∀ {b : Addr} {o : Obj}, s.heap.get? b = some o → (∀ us n, o.data = .seq us n → False) → (o.data = .fields #[] → False) → (hidT s.heap (H00 K a T vs ns)).get? b = some o := fun e h1 h2 => hidT_get e (off e h1 h2)
  have nsB : ∀ {b : Addr} {m : Str → Option Value}, s.heap.Ns b m → (hidT s.heap (H00 K a T vs ns)).Ns b m := fun {b m} ⟨o, es, ep, e, d, r⟩ =>
    ⟨o, es, ep, put e (fun us n z => by rw [d] at z; cases z) (fun z => by rw [d] at z; cases z), d, r⟩
  have kin : K.In (hidT s.heap (H00 K a T vs ns)) := fun b o e => hidT_get (KX b o e) (by
    cases q : H00 K a T vs ns b with
    | none => rfl
    | some u =>
      rcases H00_some q with ⟨eb, _⟩ | ⟨_, eb, ek, _⟩
      · rw [eb, nT] at e
        cases e
      · rw [eb, ek] at e
        cases e)
  have md : L2.Mod K mg (hidT s.heap (H00 K a T vs ns)) := ⟨kin, nsB hns, ⟨mb, nsB hb, hbb⟩, let ⟨mc, h1, h2⟩ := hlim; ⟨mc, nsB h1, h2⟩⟩
  have tb : LamX.TabB (hidT s.heap (H00 K a T vs ns)) mg c T := by
    refine ⟨?_, ?_, fun z => ?_⟩
    · obtain ⟨o, us, file, tf, flags, tg, inF, text, tt, e1, r1, r2, r3, rest⟩ := C
      exact ⟨o, us, file, tf, flags, tg, inF, text, tt, put e1 (fun vs n z => by rw [r2] at z; cases z) (fun z => by rw [r2] at z; cases z; simp at r3), r1, r2, r3, rest⟩
    · obtain ⟨bm, ob, b1, b2, b3, b4, b5, b6⟩ := hbm
      refine ⟨bm, ob, b1, b2, fun q => ?_, fun q => ?_, put b3 (fun us n z => by rw [b6] at z; cases z) (fun z => by rw [b6] at z; cases z), b4, b5, b6⟩
      · obtain ⟨o, es, ep, e, d, _⟩ := hns
        rw [q, e] at b3
        cases b3
        rw [d] at b6
        cases b6
      · rw [q, hT] at b3
        cases b3
        cases b6
    · obtain ⟨o, es, ep, e, d, _⟩ := hns
      rw [z, hT] at e
      cases e
      cases d
  have e0 : Env0 P w K mg (hidT s.heap (H00 K a T vs ns)) callerA [] s (H00 K a T vs ns) := ⟨rfl, md, fun b o e => of_hidT e, Nat.le_of_eq (hidT_size _ _), trivial, fun b hb => (by cases hb), hok, .of_eq hg⟩
  refine codeAny_mono ((F _ kin (nsB hns) tb).run callerA [] s _ ⟨[.ref a], []⟩ [.ref a] [.ref a] _ _ rfl hr e0 (hbind s (.ref a)) (.cons rfl .nil) (hsp _ H00_T hS)) fun r s' h => ?_
  cases r with
  | error e => exact False.elim h
  | ok fl =>
    cases fl with
    | next => exact False.elim h
    | brk => exact False.elim h
    | cont => exact False.elim h
    | ret u =>
      obtain ⟨v, H', os, bare, un, hok', rel, q⟩ := h
      obtain rfl : v = .bl true := q
      obtain rfl : u = Value.bool true := rel
      obtain ⟨more, zT⟩ := un.tbls T #[] H00_T
      have hm : s'.heap.get? T = some { cls := .none, data := .fields (#[] ++ more) } := hok' T _ zT
      have stay : ∀ b o, b ≠ T → s.heap.get? b = some o → s'.heap.get? b = some o := fun b o nb e => by
        cases z : H00 K a T vs ns b with
        | none => exact un.keep b o e z (fun z => by cases z) (fun z => by cases z)
        | some u =>
          rcases H00_some z with ⟨eb, _⟩ | ⟨_, eb, _, eu⟩
          · exact absurd eb nb
          · rw [eu] at z
            obtain ⟨e2, _⟩ := hok' b _ (un.frzs b _ _ z)
            rw [eb, ha] at e
            rw [← Option.some.inj e]
            exact e2
      refine ⟨rfl, ⟨fun b o e => ?_, fun b o e => ?_⟩, os, bare⟩
      · by_cases eb : b = T
        · rw [eb] at e ⊢
          rw [hT] at e
          cases e
          exact .inr (.inl ⟨(C.tab hT).isCodeTable, rfl, #[], more, rfl, hm⟩)
        · exact .inl (stay b o eb e)
      · by_cases eb : b = T
        · exact ⟨_, by rw [eb]; exact hm⟩
        · exact ⟨o, stay b o eb e⟩
end
end Q7

-- part Sa
set_option Elab.async false
set_option linter.all false
set_option maxRecDepth 100000
set_option maxHeartbeats 0
namespace Q7
open PySem PySem.Spec PyProof.Rows L2
def isTr : Out → Bool
  | .rt (.bool true) => true
  | _ => false
noncomputable def b4 : Bd := bTup 4 (bsCons (bNm 4) (bsCons (bNm 5) (bsCons (bNm 6) (bsCons (bNm 7) (bsNil)))))
noncomputable def goodE (p : Addr) (d : PyData) : Bool := match b4 d (startP 12 p []) with
  | some e => match r__law_right e with
    | some outs => outs.all isTr
    | none => false
  | none => false
noncomputable def vals5 : List Int := [0, 1, -1, 2, -2]
theorem all5_mk {f : Int → Bool} (h0 : f 0 = true) (h1 : f 1 = true) (h2 : f (-1) = true) (h3 : f 2 = true) (h4 : f (-2) = true) : vals5.all f = true := by
  unfold vals5
  simp only [List.all_cons, List.all_nil, h0, h1, h2, h3, h4, Bool.and_self]
noncomputable def nzD : List (Int × Int) → List (PyData × PyData)
  | [] => []
  | (k, v) :: r => if v = 0 then nzD r else (.int k, .int v) :: nzD r
noncomputable def ledD (m a b c : Int) : PyData := .tuple [.dict (nzD [(m, a), (2 * m, b), (3 * m, c)]), .int m, .int 0, .list [.tuple [.int 1, .dict (nzD [(1, a), (2, b), (3, c)])]]]
noncomputable def oth5 (a : Int) : PyData :=
  if a = 0 then .tuple [.dict [(.int 1, .int (-1)), (.int 5, .int 0)], .int 5, .int 4, .list [.tuple [.int 5, .dict [(.int 1, .int (-6)), (.int 5, .int 5)]]]] else if a = 1 then .tuple [.dict [(.int 1, .int (-1)), (.int 5, .int 1)], .int 5, .int 4, .list [.tuple [.int 5, .dict [(.int 1, .int (-5)), (.int 5, .int 5)]]]] else if a = -1 then .tuple [.dict [(.int 1, .int (-1)), (.int 5, .int (-1))], .int 5, .int 4, .list [.tuple [.int 5, .dict [(.int 1, .int (-7)), (.int 5, .int 5)]]]] else if a = 2 then .tuple [.dict [(.int 1, .int (-1)), (.int 5, .int 2)], .int 5, .int 4, .list [.tuple [.int 5, .dict [(.int 1, .int (-4)), (.int 5, .int 5)]]]] else if a = -2 then .tuple [.dict [(.int 1, .int (-1)), (.int 5, .int (-2))], .int 5, .int 4, .list [.tuple [.int 5, .dict [(.int 1, .int (-8)), (.int 5, .int 5)]]]] else .none
noncomputable def oth7 (a : Int) : PyData :=
  if a = 0 then .tuple [.dict [(.int 1, .int (-1)), (.int 7, .int 0)], .int 7, .int 5, .list [.tuple [.int 7, .dict [(.int 1, .int (-4)), (.int 7, .int 3)]], .tuple [.int 49, .dict [(.int 1, .int (-8)), (.int 7, .int 7)]]]] else if a = 1 then .tuple [.dict [(.int 1, .int (-1)), (.int 7, .int 1)], .int 7, .int 5, .list [.tuple [.int 7, .dict [(.int 1, .int (-3)), (.int 7, .int 3)]], .tuple [.int 49, .dict [(.int 1, .int (-7)), (.int 7, .int 7)]]]] else if a = -1 then .tuple [.dict [(.int 1, .int (-1)), (.int 7, .int (-1))], .int 7, .int 5, .list [.tuple [.int 7, .dict [(.int 1, .int (-5)), (.int 7, .int 3)]], .tuple [.int 49, .dict [(.int 1, .int (-9)), (.int 7, .int 7)]]]] else if a = 2 then .tuple [.dict [(.int 1, .int (-1)), (.int 7, .int 2)], .int 7, .int 5, .list [.tuple [.int 7, .dict [(.int 1, .int (-2)), (.int 7, .int 3)]], .tuple [.int 49, .dict [(.int 1, .int (-6)), (.int 7, .int 7)]]]] else if a = -2 then .tuple [.dict [(.int 1, .int (-1)), (.int 7, .int (-2))], .int 7, .int 5, .list [.tuple [.int 7, .dict [(.int 1, .int (-6)), (.int 7, .int 3)]], .tuple [.int 49, .dict [(.int 1, .int (-10)), (.int 7, .int 7)]]]] else .none
end Q7

-- part Sc
set_option Elab.async false
set_option linter.all false
set_option maxRecDepth 100000
set_option maxHeartbeats 0
/-! Sc: what is made: the outcomes. -/
namespace Q7
open PySem PySem.Spec PyProof.Rows L2
noncomputable def expL : List PyData := [2, 3, 4, 5].flatMap fun m => vals5.flatMap fun a => vals5.flatMap fun b => vals5.flatMap fun c => [ledD m a b c, oth5 a, oth7 a]
noncomputable def okMade (p : Addr) : Bool := match G__law_made p [] with
  | some L => eqQA L expL
  | none => false
theorem made_ok (p : Addr) : okMade p = true := by kernel_rfl
theorem made_is (p : Addr) : G__law_made p [] = some expL := by
  have h := made_ok p
  unfold okMade at h
  split at h
  · rename_i L e
    rw [e, eqQA_eq _ _ h]
  · cases h
theorem exp_mem {d : PyData} (h : d ∈ expL) : (∃ m ∈ [2, 3, 4, 5], ∃ a ∈ vals5, ∃ b ∈ vals5, ∃ c ∈ vals5, d = ledD m a b c) ∨ (∃ a ∈ vals5, d = oth5 a ∨ d = oth7 a) := by
  unfold expL at h
  obtain ⟨m, hm, h⟩ := List.mem_flatMap.mp h
  obtain ⟨a, ha, h⟩ := List.mem_flatMap.mp h
  obtain ⟨b, hb, h⟩ := List.mem_flatMap.mp h
  obtain ⟨c, hc, h⟩ := List.mem_flatMap.mp h
  rcases List.mem_cons.mp h with e | h
  · exact .inl ⟨m, hm, a, ha, b, hb, c, hc, e⟩
  · rcases List.mem_cons.mp h with e | h
    · exact .inr ⟨a, ha, .inl e⟩
    · exact .inr ⟨a, ha, .inr (List.mem_singleton.mp h)⟩
end Q7

-- part Sg
set_option maxRecDepth 100000
set_option maxHeartbeats 0
namespace Q7
open PySem PySem.Spec PyProof.Rows L2
noncomputable def okLk (p : Addr) : Bool := match G__law_looked_right p [] with
  | some L => L.all fun d => match d with
    | .bool true => true
    | _ => false
  | none => false
theorem looked_ok (p : Addr) : okLk p = true := by kernel_rfl
theorem looked_is (p : Addr) : ∃ outs, G__law_looked_right p [] = some outs ∧ ∀ d ∈ outs, d = .bool true := by
  have h := looked_ok p
  unfold okLk at h
  split at h
  · rename_i L e
    refine ⟨L, e, fun d hd => ?_⟩
    have q := List.all_eq_true.mp h d hd
    split at q
    · rfl
    · cases q
  · cases h
end Q7

-- part Sd0
set_option Elab.async false
set_option linter.all false
set_option maxRecDepth 100000
set_option maxHeartbeats 0
namespace Q7
open PySem PySem.Spec PyProof.Rows L2
theorem led_2_0_0 (p : Addr) : (vals5.all fun c => goodE p (ledD 2 0 0 c)) = true := by kernel_rfl
theorem led_2_0_1 (p : Addr) : (vals5.all fun c => goodE p (ledD 2 0 1 c)) = true := by kernel_rfl
theorem led_2_0_m1 (p : Addr) : (vals5.all fun c => goodE p (ledD 2 0 (-1) c)) = true := by kernel_rfl
theorem led_2_0_2 (p : Addr) : (vals5.all fun c => goodE p (ledD 2 0 2 c)) = true := by kernel_rfl
theorem led_2_0_m2 (p : Addr) : (vals5.all fun c => goodE p (ledD 2 0 (-2) c)) = true := by kernel_rfl
theorem led_2_0 (p : Addr) : (vals5.all fun b => vals5.all fun c => goodE p (ledD 2 0 b c)) = true := all5_mk (led_2_0_0 p) (led_2_0_1 p) (led_2_0_m1 p) (led_2_0_2 p) (led_2_0_m2 p)
theorem led_2_1_0 (p : Addr) : (vals5.all fun c => goodE p (ledD 2 1 0 c)) = true := by kernel_rfl
theorem led_2_1_1 (p : Addr) : (vals5.all fun c => goodE p (ledD 2 1 1 c)) = true := by kernel_rfl
theorem led_2_1_m1 (p : Addr) : (vals5.all fun c => goodE p (ledD 2 1 (-1) c)) = true := by kernel_rfl
theorem led_2_1_2 (p : Addr) : (vals5.all fun c => goodE p (ledD 2 1 2 c)) = true := by kernel_rfl
theorem led_2_1_m2 (p : Addr) : (vals5.all fun c => goodE p (ledD 2 1 (-2) c)) = true := by kernel_rfl
theorem led_2_1 (p : Addr) : (vals5.all fun b => vals5.all fun c => goodE p (ledD 2 1 b c)) = true := all5_mk (led_2_1_0 p) (led_2_1_1 p) (led_2_1_m1 p) (led_2_1_2 p) (led_2_1_m2 p)
theorem led_2_m1_0 (p : Addr) : (vals5.all fun c => goodE p (ledD 2 (-1) 0 c)) = true := by kernel_rfl
theorem led_2_m1_1 (p : Addr) : (vals5.all fun c => goodE p (ledD 2 (-1) 1 c)) = true := by kernel_rfl
theorem led_2_m1_m1 (p : Addr) : (vals5.all fun c => goodE p (ledD 2 (-1) (-1) c)) = true := by kernel_rfl
theorem led_2_m1_2 (p : Addr) : (vals5.all fun c => goodE p (ledD 2 (-1) 2 c)) = true := by kernel_rfl
theorem led_2_m1_m2 (p : Addr) : (vals5.all fun c => goodE p (ledD 2 (-1) (-2) c)) = true := by kernel_rfl
theorem led_2_m1 (p : Addr) : (vals5.all fun b => vals5.all fun c => goodE p (ledD 2 (-1) b c)) = true := all5_mk (led_2_m1_0 p) (led_2_m1_1 p) (led_2_m1_m1 p) (led_2_m1_2 p) (led_2_m1_m2 p)
theorem led_2_2_0 (p : Addr) : (vals5.all fun c => goodE p (ledD 2 2 0 c)) = true := by kernel_rfl
theorem led_2_2_1 (p : Addr) : (vals5.all fun c => goodE p (ledD 2 2 1 c)) = true := by kernel_rfl
theorem led_2_2_m1 (p : Addr) : (vals5.all fun c => goodE p (ledD 2 2 (-1) c)) = true := by kernel_rfl
theorem led_2_2_2 (p : Addr) : (vals5.all fun c => goodE p (ledD 2 2 2 c)) = true := by kernel_rfl
theorem led_2_2_m2 (p : Addr) : (vals5.all fun c => goodE p (ledD 2 2 (-2) c)) = true := by kernel_rfl
theorem led_2_2 (p : Addr) : (vals5.all fun b => vals5.all fun c => goodE p (ledD 2 2 b c)) = true := all5_mk (led_2_2_0 p) (led_2_2_1 p) (led_2_2_m1 p) (led_2_2_2 p) (led_2_2_m2 p)
theorem led_2_m2_0 (p : Addr) : (vals5.all fun c => goodE p (ledD 2 (-2) 0 c)) = true := by kernel_rfl
theorem led_2_m2_1 (p : Addr) : (vals5.all fun c => goodE p (ledD 2 (-2) 1 c)) = true := by kernel_rfl
theorem led_2_m2_m1 (p : Addr) : (vals5.all fun c => goodE p (ledD 2 (-2) (-1) c)) = true := by kernel_rfl
theorem led_2_m2_2 (p : Addr) : (vals5.all fun c => goodE p (ledD 2 (-2) 2 c)) = true := by kernel_rfl
theorem led_2_m2_m2 (p : Addr) : (vals5.all fun c => goodE p (ledD 2 (-2) (-2) c)) = true := by kernel_rfl
theorem led_2_m2 (p : Addr) : (vals5.all fun b => vals5.all fun c => goodE p (ledD 2 (-2) b c)) = true := all5_mk (led_2_m2_0 p) (led_2_m2_1 p) (led_2_m2_m1 p) (led_2_m2_2 p) (led_2_m2_m2 p)
end Q7

-- part Sd1
set_option Elab.async false
set_option linter.all false
set_option maxRecDepth 100000
set_option maxHeartbeats 0
namespace Q7
open PySem PySem.Spec PyProof.Rows L2
theorem led_3_0_0 (p : Addr) : (vals5.all fun c => goodE p (ledD 3 0 0 c)) = true := by kernel_rfl
theorem led_3_0_1 (p : Addr) : (vals5.all fun c => goodE p (ledD 3 0 1 c)) = true := by kernel_rfl
theorem led_3_0_m1 (p : Addr) : (vals5.all fun c => goodE p (ledD 3 0 (-1) c)) = true := by kernel_rfl
theorem led_3_0_2 (p : Addr) : (vals5.all fun c => goodE p (ledD 3 0 2 c)) = true := by kernel_rfl
theorem led_3_0_m2 (p : Addr) : (vals5.all fun c => goodE p (ledD 3 0 (-2) c)) = true := by kernel_rfl
theorem led_3_0 (p : Addr) : (vals5.all fun b => vals5.all fun c => goodE p (ledD 3 0 b c)) = true := all5_mk (led_3_0_0 p) (led_3_0_1 p) (led_3_0_m1 p) (led_3_0_2 p) (led_3_0_m2 p)
theorem led_3_1_0 (p : Addr) : (vals5.all fun c => goodE p (ledD 3 1 0 c)) = true := by kernel_rfl
theorem led_3_1_1 (p : Addr) : (vals5.all fun c => goodE p (ledD 3 1 1 c)) = true := by kernel_rfl
theorem led_3_1_m1 (p : Addr) : (vals5.all fun c => goodE p (ledD 3 1 (-1) c)) = true := by kernel_rfl
theorem led_3_1_2 (p : Addr) : (vals5.all fun c => goodE p (ledD 3 1 2 c)) = true := by kernel_rfl
theorem led_3_1_m2 (p : Addr) : (vals5.all fun c => goodE p (ledD 3 1 (-2) c)) = true := by kernel_rfl
theorem led_3_1 (p : Addr) : (vals5.all fun b => vals5.all fun c => goodE p (ledD 3 1 b c)) = true := all5_mk (led_3_1_0 p) (led_3_1_1 p) (led_3_1_m1 p) (led_3_1_2 p) (led_3_1_m2 p)
theorem led_3_m1_0 (p : Addr) : (vals5.all fun c => goodE p (ledD 3 (-1) 0 c)) = true := by kernel_rfl
theorem led_3_m1_1 (p : Addr) : (vals5.all fun c => goodE p (ledD 3 (-1) 1 c)) = true := by kernel_rfl
theorem led_3_m1_m1 (p : Addr) : (vals5.all fun c => goodE p (ledD 3 (-1) (-1) c)) = true := by kernel_rfl
theorem led_3_m1_2 (p : Addr) : (vals5.all fun c => goodE p (ledD 3 (-1) 2 c)) = true := by kernel_rfl
theorem led_3_m1_m2 (p : Addr) : (vals5.all fun c => goodE p (ledD 3 (-1) (-2) c)) = true := by kernel_rfl
theorem led_3_m1 (p : Addr) : (vals5.all fun b => vals5.all fun c => goodE p (ledD 3 (-1) b c)) = true := all5_mk (led_3_m1_0 p) (led_3_m1_1 p) (led_3_m1_m1 p) (led_3_m1_2 p) (led_3_m1_m2 p)
theorem led_3_2_0 (p : Addr) : (vals5.all fun c => goodE p (ledD 3 2 0 c)) = true := by kernel_rfl
theorem led_3_2_1 (p : Addr) : (vals5.all fun c => goodE p (ledD 3 2 1 c)) = true := by kernel_rfl
theorem led_3_2_m1 (p : Addr) : (vals5.all fun c => goodE p (ledD 3 2 (-1) c)) = true := by kernel_rfl
theorem led_3_2_2 (p : Addr) : (vals5.all fun c => goodE p (ledD 3 2 2 c)) = true := by kernel_rfl
theorem led_3_2_m2 (p : Addr) : (vals5.all fun c => goodE p (ledD 3 2 (-2) c)) = true := by kernel_rfl
theorem led_3_2 (p : Addr) : (vals5.all fun b => vals5.all fun c => goodE p (ledD 3 2 b c)) = true := all5_mk (led_3_2_0 p) (led_3_2_1 p) (led_3_2_m1 p) (led_3_2_2 p) (led_3_2_m2 p)
theorem led_3_m2_0 (p : Addr) : (vals5.all fun c => goodE p (ledD 3 (-2) 0 c)) = true := by kernel_rfl
theorem led_3_m2_1 (p : Addr) : (vals5.all fun c => goodE p (ledD 3 (-2) 1 c)) = true := by kernel_rfl
theorem led_3_m2_m1 (p : Addr) : (vals5.all fun c => goodE p (ledD 3 (-2) (-1) c)) = true := by kernel_rfl
theorem led_3_m2_2 (p : Addr) : (vals5.all fun c => goodE p (ledD 3 (-2) 2 c)) = true := by kernel_rfl
theorem led_3_m2_m2 (p : Addr) : (vals5.all fun c => goodE p (ledD 3 (-2) (-2) c)) = true := by kernel_rfl
theorem led_3_m2 (p : Addr) : (vals5.all fun b => vals5.all fun c => goodE p (ledD 3 (-2) b c)) = true := all5_mk (led_3_m2_0 p) (led_3_m2_1 p) (led_3_m2_m1 p) (led_3_m2_2 p) (led_3_m2_m2 p)
end Q7

-- part Sd2
set_option Elab.async false
set_option linter.all false
set_option maxRecDepth 100000
set_option maxHeartbeats 0
namespace Q7
open PySem PySem.Spec PyProof.Rows L2
theorem led_4_0_0 (p : Addr) : (vals5.all fun c => goodE p (ledD 4 0 0 c)) = true := by kernel_rfl
theorem led_4_0_1 (p : Addr) : (vals5.all fun c => goodE p (ledD 4 0 1 c)) = true := by kernel_rfl
theorem led_4_0_m1 (p : Addr) : (vals5.all fun c => goodE p (ledD 4 0 (-1) c)) = true := by kernel_rfl
theorem led_4_0_2 (p : Addr) : (vals5.all fun c => goodE p (ledD 4 0 2 c)) = true := by kernel_rfl
theorem led_4_0_m2 (p : Addr) : (vals5.all fun c => goodE p (ledD 4 0 (-2) c)) = true := by kernel_rfl
theorem led_4_0 (p : Addr) : (vals5.all fun b => vals5.all fun c => goodE p (ledD 4 0 b c)) = true := all5_mk (led_4_0_0 p) (led_4_0_1 p) (led_4_0_m1 p) (led_4_0_2 p) (led_4_0_m2 p)
theorem led_4_1_0 (p : Addr) : (vals5.all fun c => goodE p (ledD 4 1 0 c)) = true := by kernel_rfl
theorem led_4_1_1 (p : Addr) : (vals5.all fun c => goodE p (ledD 4 1 1 c)) = true := by kernel_rfl
theorem led_4_1_m1 (p : Addr) : (vals5.all fun c => goodE p (ledD 4 1 (-1) c)) = true := by kernel_rfl
theorem led_4_1_2 (p : Addr) : (vals5.all fun c => goodE p (ledD 4 1 2 c)) = true := by kernel_rfl
theorem led_4_1_m2 (p : Addr) : (vals5.all fun c => goodE p (ledD 4 1 (-2) c)) = true := by kernel_rfl
theorem led_4_1 (p : Addr) : (vals5.all fun b => vals5.all fun c => goodE p (ledD 4 1 b c)) = true := all5_mk (led_4_1_0 p) (led_4_1_1 p) (led_4_1_m1 p) (led_4_1_2 p) (led_4_1_m2 p)
theorem led_4_m1_0 (p : Addr) : (vals5.all fun c => goodE p (ledD 4 (-1) 0 c)) = true := by kernel_rfl
theorem led_4_m1_1 (p : Addr) : (vals5.all fun c => goodE p (ledD 4 (-1) 1 c)) = true := by kernel_rfl
theorem led_4_m1_m1 (p : Addr) : (vals5.all fun c => goodE p (ledD 4 (-1) (-1) c)) = true := by kernel_rfl
theorem led_4_m1_2 (p : Addr) : (vals5.all fun c => goodE p (ledD 4 (-1) 2 c)) = true := by kernel_rfl
theorem led_4_m1_m2 (p : Addr) : (vals5.all fun c => goodE p (ledD 4 (-1) (-2) c)) = true := by kernel_rfl
theorem led_4_m1 (p : Addr) : (vals5.all fun b => vals5.all fun c => goodE p (ledD 4 (-1) b c)) = true := all5_mk (led_4_m1_0 p) (led_4_m1_1 p) (led_4_m1_m1 p) (led_4_m1_2 p) (led_4_m1_m2 p)
theorem led_4_2_0 (p : Addr) : (vals5.all fun c => goodE p (ledD 4 2 0 c)) = true := by kernel_rfl
theorem led_4_2_1 (p : Addr) : (vals5.all fun c => goodE p (ledD 4 2 1 c)) = true := by kernel_rfl
theorem led_4_2_m1 (p : Addr) : (vals5.all fun c => goodE p (ledD 4 2 (-1) c)) = true := by kernel_rfl
theorem led_4_2_2 (p : Addr) : (vals5.all fun c => goodE p (ledD 4 2 2 c)) = true := by kernel_rfl
theorem led_4_2_m2 (p : Addr) : (vals5.all fun c => goodE p (ledD 4 2 (-2) c)) = true := by kernel_rfl
theorem led_4_2 (p : Addr) : (vals5.all fun b => vals5.all fun c => goodE p (ledD 4 2 b c)) = true := all5_mk (led_4_2_0 p) (led_4_2_1 p) (led_4_2_m1 p) (led_4_2_2 p) (led_4_2_m2 p)
theorem led_4_m2_0 (p : Addr) : (vals5.all fun c => goodE p (ledD 4 (-2) 0 c)) = true := by kernel_rfl
theorem led_4_m2_1 (p : Addr) : (vals5.all fun c => goodE p (ledD 4 (-2) 1 c)) = true := by kernel_rfl
theorem led_4_m2_m1 (p : Addr) : (vals5.all fun c => goodE p (ledD 4 (-2) (-1) c)) = true := by kernel_rfl
theorem led_4_m2_2 (p : Addr) : (vals5.all fun c => goodE p (ledD 4 (-2) 2 c)) = true := by kernel_rfl
theorem led_4_m2_m2 (p : Addr) : (vals5.all fun c => goodE p (ledD 4 (-2) (-2) c)) = true := by kernel_rfl
theorem led_4_m2 (p : Addr) : (vals5.all fun b => vals5.all fun c => goodE p (ledD 4 (-2) b c)) = true := all5_mk (led_4_m2_0 p) (led_4_m2_1 p) (led_4_m2_m1 p) (led_4_m2_2 p) (led_4_m2_m2 p)
end Q7

-- part Sd3
set_option Elab.async false
set_option linter.all false
set_option maxRecDepth 100000
set_option maxHeartbeats 0
namespace Q7
open PySem PySem.Spec PyProof.Rows L2
theorem led_5_0_0 (p : Addr) : (vals5.all fun c => goodE p (ledD 5 0 0 c)) = true := by kernel_rfl
theorem led_5_0_1 (p : Addr) : (vals5.all fun c => goodE p (ledD 5 0 1 c)) = true := by kernel_rfl
theorem led_5_0_m1 (p : Addr) : (vals5.all fun c => goodE p (ledD 5 0 (-1) c)) = true := by kernel_rfl
theorem led_5_0_2 (p : Addr) : (vals5.all fun c => goodE p (ledD 5 0 2 c)) = true := by kernel_rfl
theorem led_5_0_m2 (p : Addr) : (vals5.all fun c => goodE p (ledD 5 0 (-2) c)) = true := by kernel_rfl
theorem led_5_0 (p : Addr) : (vals5.all fun b => vals5.all fun c => goodE p (ledD 5 0 b c)) = true := all5_mk (led_5_0_0 p) (led_5_0_1 p) (led_5_0_m1 p) (led_5_0_2 p) (led_5_0_m2 p)
theorem led_5_1_0 (p : Addr) : (vals5.all fun c => goodE p (ledD 5 1 0 c)) = true := by kernel_rfl
theorem led_5_1_1 (p : Addr) : (vals5.all fun c => goodE p (ledD 5 1 1 c)) = true := by kernel_rfl
theorem led_5_1_m1 (p : Addr) : (vals5.all fun c => goodE p (ledD 5 1 (-1) c)) = true := by kernel_rfl
theorem led_5_1_2 (p : Addr) : (vals5.all fun c => goodE p (ledD 5 1 2 c)) = true := by kernel_rfl
theorem led_5_1_m2 (p : Addr) : (vals5.all fun c => goodE p (ledD 5 1 (-2) c)) = true := by kernel_rfl
theorem led_5_1 (p : Addr) : (vals5.all fun b => vals5.all fun c => goodE p (ledD 5 1 b c)) = true := all5_mk (led_5_1_0 p) (led_5_1_1 p) (led_5_1_m1 p) (led_5_1_2 p) (led_5_1_m2 p)
theorem led_5_m1_0 (p : Addr) : (vals5.all fun c => goodE p (ledD 5 (-1) 0 c)) = true := by kernel_rfl
theorem led_5_m1_1 (p : Addr) : (vals5.all fun c => goodE p (ledD 5 (-1) 1 c)) = true := by kernel_rfl
theorem led_5_m1_m1 (p : Addr) : (vals5.all fun c => goodE p (ledD 5 (-1) (-1) c)) = true := by kernel_rfl
theorem led_5_m1_2 (p : Addr) : (vals5.all fun c => goodE p (ledD 5 (-1) 2 c)) = true := by kernel_rfl
theorem led_5_m1_m2 (p : Addr) : (vals5.all fun c => goodE p (ledD 5 (-1) (-2) c)) = true := by kernel_rfl
theorem led_5_m1 (p : Addr) : (vals5.all fun b => vals5.all fun c => goodE p (ledD 5 (-1) b c)) = true := all5_mk (led_5_m1_0 p) (led_5_m1_1 p) (led_5_m1_m1 p) (led_5_m1_2 p) (led_5_m1_m2 p)
theorem led_5_2_0 (p : Addr) : (vals5.all fun c => goodE p (ledD 5 2 0 c)) = true := by kernel_rfl
theorem led_5_2_1 (p : Addr) : (vals5.all fun c => goodE p (ledD 5 2 1 c)) = true := by kernel_rfl
theorem led_5_2_m1 (p : Addr) : (vals5.all fun c => goodE p (ledD 5 2 (-1) c)) = true := by kernel_rfl
theorem led_5_2_2 (p : Addr) : (vals5.all fun c => goodE p (ledD 5 2 2 c)) = true := by kernel_rfl
theorem led_5_2_m2 (p : Addr) : (vals5.all fun c => goodE p (ledD 5 2 (-2) c)) = true := by kernel_rfl
theorem led_5_2 (p : Addr) : (vals5.all fun b => vals5.all fun c => goodE p (ledD 5 2 b c)) = true := all5_mk (led_5_2_0 p) (led_5_2_1 p) (led_5_2_m1 p) (led_5_2_2 p) (led_5_2_m2 p)
theorem led_5_m2_0 (p : Addr) : (vals5.all fun c => goodE p (ledD 5 (-2) 0 c)) = true := by kernel_rfl
theorem led_5_m2_1 (p : Addr) : (vals5.all fun c => goodE p (ledD 5 (-2) 1 c)) = true := by kernel_rfl
theorem led_5_m2_m1 (p : Addr) : (vals5.all fun c => goodE p (ledD 5 (-2) (-1) c)) = true := by kernel_rfl
theorem led_5_m2_2 (p : Addr) : (vals5.all fun c => goodE p (ledD 5 (-2) 2 c)) = true := by kernel_rfl
theorem led_5_m2_m2 (p : Addr) : (vals5.all fun c => goodE p (ledD 5 (-2) (-2) c)) = true := by kernel_rfl
theorem led_5_m2 (p : Addr) : (vals5.all fun b => vals5.all fun c => goodE p (ledD 5 (-2) b c)) = true := all5_mk (led_5_m2_0 p) (led_5_m2_1 p) (led_5_m2_m1 p) (led_5_m2_2 p) (led_5_m2_m2 p)
end Q7

-- part Sd4
set_option Elab.async false
set_option linter.all false
set_option maxRecDepth 100000
set_option maxHeartbeats 0
namespace Q7
open PySem PySem.Spec PyProof.Rows L2
theorem oth5_0 (p : Addr) : goodE p (oth5 0) = true := by kernel_rfl
theorem oth5_1 (p : Addr) : goodE p (oth5 1) = true := by kernel_rfl
theorem oth5_m1 (p : Addr) : goodE p (oth5 (-1)) = true := by kernel_rfl
theorem oth5_2 (p : Addr) : goodE p (oth5 2) = true := by kernel_rfl
theorem oth5_m2 (p : Addr) : goodE p (oth5 (-2)) = true := by kernel_rfl
end Q7

-- part Sd5
set_option Elab.async false
set_option linter.all false
set_option maxRecDepth 100000
set_option maxHeartbeats 0
namespace Q7
open PySem PySem.Spec PyProof.Rows L2
theorem oth7_0 (p : Addr) : goodE p (oth7 0) = true := by kernel_rfl
theorem oth7_1 (p : Addr) : goodE p (oth7 1) = true := by kernel_rfl
theorem oth7_m1 (p : Addr) : goodE p (oth7 (-1)) = true := by kernel_rfl
theorem oth7_2 (p : Addr) : goodE p (oth7 2) = true := by kernel_rfl
theorem oth7_m2 (p : Addr) : goodE p (oth7 (-2)) = true := by kernel_rfl
end Q7

-- part Se
set_option Elab.async false
set_option linter.all false
set_option maxRecDepth 100000
set_option maxHeartbeats 0
/-! Se: _law_right answers true. -/
namespace Q7
open PySem PySem.Spec PyProof.Rows L2
theorem all5 {f : Int → Bool} (h : vals5.all f = true) {a : Int} (ha : a ∈ vals5) : f a = true := List.all_eq_true.mp h a ha
theorem led_all (p : Addr) {m a b c : Int} (hm : m ∈ ([2, 3, 4, 5] : List Int)) (ha : a ∈ vals5) (hb : b ∈ vals5) (hc : c ∈ vals5) : goodE p (ledD m a b c) = true := by
  have fin : (vals5.all fun b => vals5.all fun c => goodE p (ledD m a b c)) = true → goodE p (ledD m a b c) = true := fun h => all5 (all5 h hb) hc
  apply fin
  have ha2 : a = 0 ∨ a = 1 ∨ a = -1 ∨ a = 2 ∨ a = -2 := by
    unfold vals5 at ha
    simpa using ha
  have hm2 : m = 2 ∨ m = 3 ∨ m = 4 ∨ m = 5 := by simpa using hm
  rcases hm2 with rfl | rfl | rfl | rfl <;> rcases ha2 with rfl | rfl | rfl | rfl | rfl
  · exact led_2_0 p
  · exact led_2_1 p
  · exact led_2_m1 p
  · exact led_2_2 p
  · exact led_2_m2 p
  · exact led_3_0 p
  · exact led_3_1 p
  · exact led_3_m1 p
  · exact led_3_2 p
  · exact led_3_m2 p
  · exact led_4_0 p
  · exact led_4_1 p
  · exact led_4_m1 p
  · exact led_4_2 p
  · exact led_4_m2 p
  · exact led_5_0 p
  · exact led_5_1 p
  · exact led_5_m1 p
  · exact led_5_2 p
  · exact led_5_m2 p
theorem oth_all (p : Addr) {a : Int} (ha : a ∈ vals5) : goodE p (oth5 a) = true ∧ goodE p (oth7 a) = true := by
  have ha2 : a = 0 ∨ a = 1 ∨ a = -1 ∨ a = 2 ∨ a = -2 := by
    unfold vals5 at ha
    simpa using ha
  rcases ha2 with rfl | rfl | rfl | rfl | rfl
  · exact ⟨oth5_0 p, oth7_0 p⟩
  · exact ⟨oth5_1 p, oth7_1 p⟩
  · exact ⟨oth5_m1 p, oth7_m1 p⟩
  · exact ⟨oth5_2 p, oth7_2 p⟩
  · exact ⟨oth5_m2 p, oth7_m2 p⟩
theorem exp_good (p : Addr) {d : PyData} (h : d ∈ expL) : goodE p d = true := by
  rcases exp_mem h with ⟨m, hm, a, ha, b, hb, c, hc, rfl⟩ | ⟨a, ha, rfl | rfl⟩
  · exact led_all p hm ha hb hc
  · exact (oth_all p ha).1
  · exact (oth_all p ha).2
theorem allO_all {α β : Type} {f : α → Option (List β)} {P : β → Prop} : ∀ {l : List α}, (∀ a ∈ l, ∃ x, f a = some x ∧ ∀ b ∈ x, P b) → ∃ r, allO f l = some r ∧ ∀ b ∈ r, P b
  | [], _ => ⟨[], rfl, fun b hb => by cases hb⟩
  | a :: l, h => by
    obtain ⟨x, e, q⟩ := h a List.mem_cons_self
    obtain ⟨r, e2, q2⟩ := allO_all (f := f) (P := P) fun c hc => h c (List.mem_cons_of_mem _ hc)
    refine ⟨x ++ r, ?_, fun b hb => (List.mem_append.mp hb).elim (q b) (q2 b)⟩
    show (f a).bind _ = _
    rw [e]
    show (allO f l).map _ = _
    rw [e2]
    rfl
def Tr (o : Out) : Prop := o = .rt (.bool true)
def Good (g : Nx) (env : Nv) : Prop := ∃ outs, g env = some outs ∧ ∀ o ∈ outs, Tr o
theorem isTr_of {o : Out} (h : isTr o = true) : Tr o := by
  unfold isTr at h
  split at h
  · rfl
  · cases h
theorem good_cons {g g2 : Nx} {env : Nv} {os : List Out} (h : g env = some os) (k : ∀ o ∈ os, Tr o ∨ ∃ e, o = .nx e ∧ Good g2 e) : Good (nCons g g2) env := by
  have q := allO_all (P := Tr) (f := fun o => match o with
    | .nx e => g2 e
    | .rt d => some [.rt d]) (l := os) fun o ho => by
    rcases k o ho with e | ⟨e, rfl, outs, h1, h2⟩
    · rw [show o = _ from e]
      exact ⟨_, rfl, fun b hb => List.mem_singleton.mp hb⟩
    · exact ⟨outs, h1, h2⟩
  obtain ⟨r, h1, h2⟩ := q
  refine ⟨r, ?_, h2⟩
  show (g env).bind _ = _
  rw [h]
  exact h1
theorem goodE_of {p : Addr} {d : PyData} (h : goodE p d = true) : ∃ e, b4 d (startP 12 p []) = some e ∧ Good r__law_right e := by
  unfold goodE at h
  generalize startP 12 p [] = env at h ⊢
  generalize r__law_right = r at h ⊢
  generalize b4 = b at h ⊢
  split at h
  · rename_i e z
    split at h
    · rename_i outs z2
      exact ⟨e, z, outs, z2, fun o ho => isTr_of (List.all_eq_true.mp h o ho)⟩
    · cases h
  · cases h
theorem nCall0 {G : Addr → List PyData → Option (List PyData)} {p : Addr} {env : Nv} (h : env[0]? = some (.raw (.ref p))) : nCall aNil G env = G p [] := by
  unfold nCall potA
  rw [h]
  rfl
theorem if_good {c : Nv → Option (List Bool)} {G : Addr → List PyData → Option (List PyData)} {p : Addr} {env : Nv} {bs : List Bool} {lo : List PyData} (h : env[0]? = some (.raw (.ref p))) (hb : c env = some bs) (l1 : G p [] = some lo) (l2 : ∀ d ∈ lo, d = .bool true) :
    ∃ os, nIfS c (nRet (nCall aNil G)) nNil env = some os ∧ ∀ o ∈ os, Tr o ∨ o = .nx env := by
  have q := allO_all (P := fun o => Tr o ∨ o = Out.nx env) (f := fun b : Bool => if b then nRet (nCall aNil G) env else nNil env) (l := bs) fun b hb => by
    cases b with
    | true =>
      refine ⟨lo.map Out.rt, ?_, fun o ho => ?_⟩
      · show (nCall aNil G env).map (fun ds => ds.map Out.rt) = _
        rw [nCall0 h, l1]
        rfl
      · obtain ⟨d, hd, rfl⟩ := List.mem_map.mp ho
        rw [l2 d hd]
        exact .inl rfl
    | false => exact ⟨_, rfl, fun o ho => .inr (List.mem_singleton.mp ho)⟩
  obtain ⟨r, h1, h2⟩ := q
  refine ⟨r, ?_, h2⟩
  unfold nIfS
  rw [hb]
  exact h1
theorem asg_good {G : Addr → List PyData → Option (List PyData)} {b : Bd} {r : Nx} {p : Addr} {env : Nv} {L : List PyData} (h : env[0]? = some (.raw (.ref p))) (hm : G p [] = some L) (hg : ∀ d ∈ L, ∃ e, b d env = some e ∧ Good r e) : Good (nCons (nAsg (nCall aNil G) b) r) env := by
  have q := allO_all (P := fun o : Out => ∃ e, o = .nx e ∧ Good r e) (f := fun d => (b d env).map fun e => [Out.nx e]) (l := L) fun d hd => by
    obtain ⟨e, e1, e2⟩ := hg d hd
    rw [e1]
    exact ⟨_, rfl, fun o ho => ⟨e, List.mem_singleton.mp ho, e2⟩⟩
  obtain ⟨os, h3, h4⟩ := q
  refine good_cons (os := os) ?_ fun o ho => .inr (h4 o ho)
  unfold nAsg
  rw [nCall0 h, hm]
  exact h3
theorem runN0 {n : Nat} {g : Nx} {p : Addr} (h : Good g (startP n p [])) : ∃ ds, runN n 0 g p [] = some ds ∧ ∀ d ∈ ds, d = .bool true := by
  obtain ⟨outs, h1, h2⟩ := h
  have q : ∃ ds, rts outs = some ds ∧ ∀ d ∈ ds, d = .bool true := by
    clear h1
    induction outs with
    | nil => exact ⟨[], rfl, fun d hd => by cases hd⟩
    | cons o outs ih =>
      obtain ⟨ds, i1, i2⟩ := ih fun o ho => h2 o (List.mem_cons_of_mem _ ho)
      have e := h2 o List.mem_cons_self
      rw [show o = _ from e]
      refine ⟨.bool true :: ds, ?_, fun d hd => ?_⟩
      · show (rts outs).map _ = _
        rw [i1]
        rfl
      · rcases List.mem_cons.mp hd with rfl | hd
        · rfl
        · exact i2 d hd
  obtain ⟨ds, i1, i2⟩ := q
  refine ⟨ds, ?_, i2⟩
  show (g (startP n p [])).bind rts = _
  rw [h1]
  exact i1
theorem start0 {n : Nat} {p : Addr} : (startP n p [])[0]? = some (.raw (.ref p)) := rfl
theorem right_is (p : Addr) : ∃ outs, G__law_right p [] = some outs ∧ ∀ d ∈ outs, d = .bool true := by
  obtain ⟨lo, l1, l2⟩ := looked_is p
  unfold G__law_right g__law_right
  refine runN0 ?_
  unfold a__law_right
  obtain ⟨os, h1, h2⟩ := if_good (bs := [true, false, false]) (start0 (n := 12) (p := p)) (by kernel_rfl) l1 l2
  refine good_cons h1 fun o ho => ?_
  rcases h2 o ho with e | rfl
  · exact .inl e
  · exact .inr ⟨_, rfl, asg_good start0 (made_is p) fun d hd => goodE_of (exp_good p hd)⟩
end Q7

-- part Sh
set_option Elab.async false
set_option linter.all false
set_option maxRecDepth 100000
set_option maxHeartbeats 0
namespace Q7
open PySem PySem.Spec PyProof.Rows L2
theorem okMul_r {i j : Int} (h : Nat.blt j.natAbs 18446744073709551616 = true) : okMul i j = true := by
  unfold okMul
  rw [h, Bool.or_true]
theorem aMul_r {i j : Int} (h : Nat.blt j.natAbs 18446744073709551616 = true) : aMul (.int i) (.int j) = some (.int (i * j)) := by
  show (if okMul i j then some (PyData.int (i * j)) else none) = _
  rw [okMul_r h]
  rfl
theorem aMod_r {i j : Int} (h : decide (j ≠ 0) = true) : aMod (.int i) (.int j) = some (.int (i.fmod j)) := by
  show (if decide (j ≠ 0) then some (PyData.int (i.fmod j)) else none) = _
  rw [h]
  rfl
noncomputable def tl_pot : Sx := sRet (fLst (aCons (b2 (kD (.int 0)) (b2 (nQ 2) (b2 (kD (.int 10)) (kD (.int 18)) aPow) aSub) gMax2) (aCons (b2 (b2 (u1 (b2 (b2 (b2 (b2 (u1 (nQ 2) gInt) (kD (.int 2147483549)) aMod) (kD (.int 48271)) aMul) (b2 (kD (.int 4259)) (nQ 1) aMul) aAdd) (kD (.int 17)) aAdd) gInt) (kD (.int 2147483563)) aMod) (kD (.int 1)) aAdd) (aNil))))
theorem kD_is (d : PyData) (env : Nv) : kD d env = some d := rfl
theorem b2_of {f1 f2 : Nv → Option PyData} {g : PyData → PyData → Option PyData} {env : Nv} {a b : PyData} {c : Option PyData} (h1 : f1 env = some a) (h2 : f2 env = some b) (h : g a b = c) : b2 f1 f2 g env = c := by
  unfold b2
  rw [h1, h2]
  exact h
theorem u1_of {f : Nv → Option PyData} {g : PyData → Option PyData} {env : Nv} {a : PyData} {c : Option PyData} (h1 : f env = some a) (h : g a = c) : u1 f g env = c := by
  unfold u1
  rw [h1]
  exact h
theorem tl_is (s : PyData) (c : Int) : ∃ a b : Int, 0 ≤ a ∧ tl_pot [.fr s, .fr (.int 0), .fr (.int c)] = some (.rt (.list [.int a, .int b])) := by
  refine ⟨if decide (c - 1000000000000000000 > 0) then c - 1000000000000000000 else 0, ((c.fmod 2147483549 * 48271 + 0) + 17).fmod 2147483563 + 1, ?_, ?_⟩
  · split
    · rename_i h
      have := of_decide_eq_true h
      omega
    · exact Int.le_refl 0
  · have q2 : nQ 2 [.fr s, .fr (.int 0), .fr (.int c)] = some (.int c) := rfl
    have q1 : nQ 1 [.fr s, .fr (.int 0), .fr (.int c)] = some (.int 0) := rfl
    have e0 := b2_of (kD_is (.int 0) [.fr s, .fr (.int 0), .fr (.int c)]) (b2_of q2 (show b2 (kD (.int 10)) (kD (.int 18)) aPow [.fr s, .fr (.int 0), .fr (.int c)] = some (.int 1000000000000000000) by kernel_rfl) (show aSub (.int c) (.int 1000000000000000000) = some (.int (c - 1000000000000000000)) from rfl)) (g := gMax2) rfl
    have e1 := b2_of (u1_of q2 (show gInt (.int c) = some (.int c) from rfl)) (kD_is (.int 2147483549) _) (aMod_r (i := c) (j := 2147483549) rfl)
    have e2 := b2_of e1 (kD_is (.int 48271) _) (aMul_r (i := c.fmod 2147483549) (j := 48271) rfl)
    have e3 := b2_of (kD_is (.int 4259) [.fr s, .fr (.int 0), .fr (.int c)]) q1 (show aMul (.int 4259) (.int 0) = some (.int 0) by kernel_rfl)
    have e4 := b2_of e2 e3 (show aAdd (.int (c.fmod 2147483549 * 48271)) (.int 0) = some (.int (c.fmod 2147483549 * 48271 + 0)) from rfl)
    have e5 := b2_of e4 (kD_is (.int 17) _) (show aAdd (.int (c.fmod 2147483549 * 48271 + 0)) (.int 17) = some (.int (c.fmod 2147483549 * 48271 + 0 + 17)) from rfl)
    have e6 := b2_of (u1_of e5 (show gInt (.int (c.fmod 2147483549 * 48271 + 0 + 17)) = some (.int (c.fmod 2147483549 * 48271 + 0 + 17)) from rfl)) (kD_is (.int 2147483563) _) (aMod_r (i := c.fmod 2147483549 * 48271 + 0 + 17) (j := 2147483563) rfl)
    have e7 := b2_of e6 (kD_is (.int 1) _) (show aAdd (.int ((c.fmod 2147483549 * 48271 + 0 + 17).fmod 2147483563)) (.int 1) = some (.int ((c.fmod 2147483549 * 48271 + 0 + 17).fmod 2147483563 + 1)) from rfl)
    unfold tl_pot sRet fLst aCons aNil
    rw [e0]
    simp only [Option.bind_some]
    rw [e7]
    rfl
theorem sCons_of {g g2 : Sx} {env e : Nv} {c : Option Out} (h1 : g env = some (.nx e)) (h2 : g2 e = c) : sCons g g2 env = c := by
  unfold sCons
  rw [h1]
  exact h2
theorem cLt_of {i j : Int} (h : i < j) : cLt (.int i) (.int j) = some (.bool true) := by
  show some (PyData.bool (decide (i < j))) = _
  rw [decide_eq_true h]
theorem sIf_of {f : Nv → Option PyData} {g g2 : Sx} {env : Nv} {c : Option Out} (h1 : f env = some (.bool true)) (h2 : g env = c) : sIf (oB f) g g2 env = c := by
  unfold sIf oB
  rw [h1]
  exact h2
theorem pot_is (ns : List Int) : ∃ a b : Int, 0 ≤ a ∧ F__law_pot [.list (ns.map .int), .int 0] = some (.list [.int a, .int b]) := by
  rw [hx__law_pot]
  have fin : ∀ c : Int, g__law_pot [.fr (.list (ns.map .int)), .fr (.int 0), .un] = tl_pot [.fr (.list (ns.map .int)), .fr (.int 0), .fr (.int c)] → ∃ a b : Int, 0 ≤ a ∧ runO 3 2 g__law_pot [.list (ns.map .int), .int 0] = some (.list [.int a, .int b]) := fun c e => by
    obtain ⟨a, b, h1, h2⟩ := tl_is (.list (ns.map .int)) c
    refine ⟨a, b, h1, ?_⟩
    show (g__law_pot [.fr (.list (ns.map .int)), .fr (.int 0), .un]).bind _ = _
    rw [e, h2]
    rfl
  cases ns with
  | nil => exact fin 787 (sCons_of rfl (sCons_of rfl rfl))
  | cons n r =>
    refine fin (if n < 0 then -n else n) (sCons_of rfl (sCons_of ?_ rfl))
    have q := cLt_of (i := 0) (j := ((PyData.int n :: r.map PyData.int).length : Int)) (by rw [List.length_cons]; omega)
    refine sIf_of (b2_of rfl (u1_of rfl rfl) q) ?_
    have e1 : gIx (.list (.int n :: r.map .int)) (.int 0) = some (.int n) := by
      show atI (PyData.int n :: r.map PyData.int) 0 = _
      have e0 : ixN (PyData.int n :: r.map PyData.int).length 0 = some 0 := by
        unfold ixN
        simp
        try omega
      unfold atI
      rw [e0]
      rfl
    have e2 : u1 (b2 (nQ 0) (nQ 1) gIx) gAbs [.fr (.list (.int n :: r.map .int)), .fr (.int 0), .fr (.int (1097 * 0 + 787))] = some (.int (if n < 0 then -n else n)) := u1_of (b2_of rfl rfl e1) rfl
    exact congrArg (fun z => z.bind fun d => some (Out.nx [.fr (.list (.int n :: r.map .int)), .fr (.int 0), .fr d])) e2
end Q7

-- part Ql1
set_option Elab.async false
set_option linter.all false
set_option maxRecDepth 100000
set_option maxHeartbeats 0
/-! Ql1: the law's promise. -/
namespace Q7
open PySem PySem.Spec PyProof.Rows L2
open C8 (Cal pe_c)
section
variable {P : Program} {w : World} {K : PySem.W.Frag} {mg : Str → Option Value} {base : Heap} {f T : Addr} {fd : FuncData}
def spLaw (K : PySem.W.Frag) (T : Addr) : Sp := fun vs H Q _ => ∃ (a : Addr) (ns : List Int), vs = [.ref a] ∧ H T = some (.tbl #[]) ∧ SqL K H a (ns.map V.int) ∧ ∀ H', Q (.bl true) H'
theorem sc_law : FnScope ["_law_script"] ["_law_script"] (defScope (top 149)) := ⟨rfl, rfl, rfl, by decide +kernel, rfl, by decide +kernel, by decide +kernel⟩
theorem fnG_law (M : Mg mg) (FD : FunD K "law" "law" (defArgs (top 149)) (defBody (top 149)) (defScope (top 149)) [] [] f fd) (c_pot : CO P w K mg base 1 "_law_pot" F__law_pot) (c_right : CalG P w K mg base 11 "_law_right" (spNT K T G__law_right)) : FnG P w K mg base 12 f fd ["_law_script"] (spLaw K T) := by
  refine fnG_of FD sc_law (fun vs H Q E ⟨a, ns, e, _⟩ => by rw [e]; rfl) fun cdv A outer s H vs Q E hg hr h =>
    ⟨_, PSs.nox (pss_one (ps_ret (pe_cG c_right hg hr (by decide) rfl (pa_cons (c_call bkO c_pot hr (by decide) rfl (a_cons (c_nF (pv 0)) (a_cons c_int a_nil))) pa_nil)))), ?_⟩
  obtain ⟨a, ns, rfl, hT, hS, q⟩ := h
  obtain ⟨pa, pb, hpa, hpot⟩ := pot_is ns
  have sub : Sub (hideT T H) H := fun b u r => by
    rcases r with r | ⟨o, r⟩
    · exact .inl (hideT_some r).2
    · exact .inr ⟨o, (hideT_some r).2⟩
  have hS2 : SqL K (hideT T H) a (ns.map V.int) := sql_tab hS hT fun b o nb e => by
    rw [hideT_ne nb]
    exact e
  have rs : RpA K (hideT T H) [.list (ns.map PyData.int)] [.ref a] := ⟨.ref a, [], rfl, ⟨a, ns.map V.int, rfl, hS2, RpA.of_ints ns⟩, rfl⟩
  refine ⟨H, hideT T H, _, .list [.int pa, .int pb], start_ok (N := ["_law_script"]) sub rs, Option.bind_eq_some_iff.mpr ⟨[.list (ns.map PyData.int), .int 0], rfl, hpot⟩, fun v Hf' H' S' s' g' r => ?_⟩
  obtain ⟨p, rfl, hp, fp, xs, e1, e2⟩ := r
  have e3 : xs = [V.int pa, V.int pb] := RpA.ints (ns := [pa, pb]) e2
  subst e3
  obtain ⟨outs, ho, hall⟩ := right_is p
  have fT : Hf' T = none := g'.new T hideT_at (by rw [hT]; exact fun w => nomatch w)
  show spNT K T G__law_right [V.ref p] H' Q C8.E0
  refine ⟨p, _, Hf', [], outs, [], rfl, e1, ⟨pa, pb, rfl, hpa⟩, fp, S'.sub, ⟨s' T _ hT, fT⟩, rfl, ho, fun d hd v o' Hf2 H2 _ _ _ _ _ _ rv => ?_⟩
  rw [hall d hd] at rv
  obtain rfl : v = V.bl true := rv
  exact q H2
end
end Q7

-- part As
set_option Elab.async false
set_option linter.all false
set_option maxRecDepth 100000
set_option maxHeartbeats 0
/-! As: each def keeps its promise. -/
namespace Q7
open PySem PySem.Spec PyProof.Rows L2
open C8 (Cal pe_c)
section
variable {P : Program} {w : World} {K : PySem.W.Frag} {mg : Str → Option Value} {base h : Heap} {c T : Addr}
theorem mg_of (X : K.In h) (G : h.Ns mainGlobals mg) (s : He.SaysD faL fnL K) : Mg mg :=
  ⟨He.free_ok X G (s.fact 0 (f := .free "abs") rfl),
   He.free_ok X G (s.fact 1 (f := .free "all") rfl),
   He.free_ok X G (s.fact 2 (f := .free "any") rfl),
   He.free_ok X G (s.fact 3 (f := .free "bool") rfl),
   He.free_ok X G (s.fact 4 (f := .free "dict") rfl),
   He.free_ok X G (s.fact 5 (f := .free "divmod") rfl),
   He.free_ok X G (s.fact 6 (f := .free "enumerate") rfl),
   He.free_ok X G (s.fact 7 (f := .free "int") rfl),
   He.free_ok X G (s.fact 8 (f := .free "isinstance") rfl),
   He.free_ok X G (s.fact 9 (f := .free "len") rfl),
   He.free_ok X G (s.fact 10 (f := .free "list") rfl),
   He.free_ok X G (s.fact 11 (f := .free "max") rfl),
   He.free_ok X G (s.fact 12 (f := .free "min") rfl),
   He.free_ok X G (s.fact 13 (f := .free "range") rfl),
   He.free_ok X G (s.fact 14 (f := .free "repr") rfl),
   He.free_ok X G (s.fact 15 (f := .free "set") rfl),
   He.free_ok X G (s.fact 16 (f := .free "sorted") rfl),
   He.free_ok X G (s.fact 17 (f := .free "str") rfl),
   He.free_ok X G (s.fact 18 (f := .free "sum") rfl),
   He.free_ok X G (s.fact 19 (f := .free "tuple") rfl),
   He.free_ok X G (s.fact 20 (f := .free "zip") rfl),
   He.int_ok X G (s.fact 21 (f := .int "BOUND_OF_DIGITS" k_BOUND_OF_DIGITS) rfl),
   He.int_ok X G (s.fact 22 (f := .int "MOST_CHOICES" k_MOST_CHOICES) rfl),
   He.int_ok X G (s.fact 23 (f := .int "MOST_LEVEL_divisors" k_MOST_LEVEL_divisors) rfl),
   He.int_ok X G (s.fact 24 (f := .int "MOST_LEVEL_levels" k_MOST_LEVEL_levels) rfl),
   He.int_ok X G (s.fact 25 (f := .int "MOST_PLACE" k_MOST_PLACE) rfl),
   He.int_ok X G (s.fact 26 (f := .int "MOST_POWER" k_MOST_POWER) rfl),
   He.int_ok X G (s.fact 27 (f := .int "MOST_REACHED" k_MOST_REACHED) rfl),
   He.int_ok X G (s.fact 28 (f := .int "MOST_SIZE" k_MOST_SIZE) rfl),
   He.int_ok X G (s.fact 29 (f := .int "MOST_STEPS" k_MOST_STEPS) rfl),
   He.int_ok X G (s.fact 30 (f := .int "MOST_STEP_orbits" k_MOST_STEP_orbits) rfl),
   He.int_ok X G (s.fact 31 (f := .int "MOST_STEP_products" k_MOST_STEP_products) rfl),
   He.int_ok X G (s.fact 32 (f := .int "MOST_TERMS" k_MOST_TERMS) rfl),
   He.int_ok X G (s.fact 33 (f := .int "ROUND" k_ROUND) rfl),
   He.int_ok X G (s.fact 34 (f := .int "SHIFT_UNDER" k_SHIFT_UNDER) rfl),
   He.str_ok X G (s.fact 35 (f := .str "WORD" k_WORD) rfl)⟩
theorem def_at (s : He.SaysD faL fnL K) {x : Str} {i : Nat} (k : Nat) (e : fnL[k]? = some (mkD x i)) : ∃ fd, FunD K x x (defArgs (top i)) (defBody (top i)) (defScope (top i)) [] [] (He.ga K x) fd := s.def_ k (d := mkD x i) e
theorem ns_at (s : He.SaysD faL fnL K) (z : nofn0 K = true) {x : Str} {i : Nat} (k : Nat) (e : fnL[k]? = some (mkD x i)) : PySem.W.nsIn K mainGlobals x = some (some (.ref (He.ga K x))) := by
  obtain ⟨fd, F⟩ := s.def_ k (d := mkD x i) e
  obtain ⟨oc, od, dV, kV, doc, pm, an, cdv, ct, osl, ef, lk, _⟩ := F.ex
  have lk : K.lookup (He.ga K x) = some ⟨oc, od, .func _, osl⟩ := lk
  have no : He.ga K x = 0 → False := fun e0 => by
    rw [e0] at lk
    unfold nofn0 at z
    rw [lk] at z
    cases z
  have eg : He.ga K x = (match PySem.W.nsIn K mainGlobals x with
    | some (some (.ref a)) => a
    | _ => 0) := rfl
  split at eg
  · rename_i a q
    rw [q, eg]
  · exact (no eg).elim
theorem glo_at (X : K.In h) (G : h.Ns mainGlobals mg) (s : He.SaysD faL fnL K) (z : nofn0 K = true) {x : Str} {i : Nat} (k : Nat) (e : fnL[k]? = some (mkD x i)) : mg x = some (.ref (He.ga K x)) := PySem.W.mg_of X G (ns_at s z k e)
theorem kc__law_draw (X : K.In h) (G : h.Ns mainGlobals mg) (s : He.SaysD faL fnL K) (z : nofn0 K = true) : CN P w K mg base 1 "_law_draw" gDraw := by
  have M := mg_of X G s
  obtain ⟨fd, FD⟩ := def_at s (x := "_law_draw") (i := 112) 70 rfl
  have hm := glo_at X G s z (x := "_law_draw") (i := 112) 70 rfl
  exact cal_draw M FD hm
theorem kc__law_divisors (X : K.In h) (G : h.Ns mainGlobals mg) (s : He.SaysD faL fnL K) (z : nofn0 K = true) : CF P w K mg base 1 "_law_divisors" F__law_divisors := by
  have M := mg_of X G s
  obtain ⟨fd, FD⟩ := def_at s (x := "_law_divisors") (i := 115) 73 rfl
  have hm := glo_at X G s z (x := "_law_divisors") (i := 115) 73 rfl
  exact cal__law_divisors M FD hm 
theorem kc__law_gcd (X : K.In h) (G : h.Ns mainGlobals mg) (s : He.SaysD faL fnL K) (z : nofn0 K = true) : CF P w K mg base 1 "_law_gcd" nGcd := by
  have M := mg_of X G s
  obtain ⟨fd, FD⟩ := def_at s (x := "_law_gcd") (i := 114) 72 rfl
  have hm := glo_at X G s z (x := "_law_gcd") (i := 114) 72 rfl
  exact cal_imp (cal__law_gcd M FD hm ) law_gcd_F
theorem kc__law_ends (X : K.In h) (G : h.Ns mainGlobals mg) (s : He.SaysD faL fnL K) (z : nofn0 K = true) : CF P w K mg base 2 "_law_ends" F__law_ends := by
  have M := mg_of X G s
  obtain ⟨fd, FD⟩ := def_at s (x := "_law_ends") (i := 120) 78 rfl
  have hm := glo_at X G s z (x := "_law_ends") (i := 120) 78 rfl
  exact cal__law_ends M FD hm (kc__law_divisors X G s z) (kc__law_gcd X G s z)
theorem kc__law_index (X : K.In h) (G : h.Ns mainGlobals mg) (s : He.SaysD faL fnL K) (z : nofn0 K = true) : CF P w K mg base 1 "_law_index" F__law_index := by
  have M := mg_of X G s
  obtain ⟨fd, FD⟩ := def_at s (x := "_law_index") (i := 119) 77 rfl
  have hm := glo_at X G s z (x := "_law_index") (i := 119) 77 rfl
  exact cal__law_index M FD hm 
theorem kc__law_is_less (X : K.In h) (G : h.Ns mainGlobals mg) (s : He.SaysD faL fnL K) (z : nofn0 K = true) : CF P w K mg base 1 "_law_is_less" F__law_is_less := by
  have M := mg_of X G s
  obtain ⟨fd, FD⟩ := def_at s (x := "_law_is_less") (i := 118) 76 rfl
  have hm := glo_at X G s z (x := "_law_is_less") (i := 118) 76 rfl
  exact cal__law_is_less M FD hm 
theorem kc__law_ratio (X : K.In h) (G : h.Ns mainGlobals mg) (s : He.SaysD faL fnL K) (z : nofn0 K = true) : CF P w K mg base 2 "_law_ratio" F__law_ratio := by
  have M := mg_of X G s
  obtain ⟨fd, FD⟩ := def_at s (x := "_law_ratio") (i := 116) 74 rfl
  have hm := glo_at X G s z (x := "_law_ratio") (i := 116) 74 rfl
  exact cal__law_ratio M FD hm (kc__law_gcd X G s z)
theorem kc__law_plus (X : K.In h) (G : h.Ns mainGlobals mg) (s : He.SaysD faL fnL K) (z : nofn0 K = true) : CF P w K mg base 3 "_law_plus" F__law_plus := by
  have M := mg_of X G s
  obtain ⟨fd, FD⟩ := def_at s (x := "_law_plus") (i := 117) 75 rfl
  have hm := glo_at X G s z (x := "_law_plus") (i := 117) 75 rfl
  exact cal__law_plus M FD hm (kc__law_ratio X G s z)
theorem kc__law_low (X : K.In h) (G : h.Ns mainGlobals mg) (s : He.SaysD faL fnL K) (z : nofn0 K = true) : CF P w K mg base 4 "_law_low" F__law_low := by
  have M := mg_of X G s
  obtain ⟨fd, FD⟩ := def_at s (x := "_law_low") (i := 136) 94 rfl
  have hm := glo_at X G s z (x := "_law_low") (i := 136) 94 rfl
  exact cal__law_low M FD hm (kc__law_gcd X G s z) (kc__law_is_less X G s z) (kc__law_plus X G s z) (kc__law_ratio X G s z)
theorem kc__law_step_sum (X : K.In h) (G : h.Ns mainGlobals mg) (s : He.SaysD faL fnL K) (z : nofn0 K = true) : CF P w K mg base 1 "_law_step_sum" F__law_step_sum := by
  have M := mg_of X G s
  obtain ⟨fd, FD⟩ := def_at s (x := "_law_step_sum") (i := 122) 80 rfl
  have hm := glo_at X G s z (x := "_law_step_sum") (i := 122) 80 rfl
  exact cal__law_step_sum M FD hm 
theorem kc__law_x (X : K.In h) (G : h.Ns mainGlobals mg) (s : He.SaysD faL fnL K) (z : nofn0 K = true) : CF P w K mg base 3 "_law_x" F__law_x := by
  have M := mg_of X G s
  obtain ⟨fd, FD⟩ := def_at s (x := "_law_x") (i := 129) 87 rfl
  have hm := glo_at X G s z (x := "_law_x") (i := 129) 87 rfl
  exact cal__law_x M FD hm (kc__law_ratio X G s z) (kc__law_step_sum X G s z)
theorem kc__law_place (X : K.In h) (G : h.Ns mainGlobals mg) (s : He.SaysD faL fnL K) (z : nofn0 K = true) : CF P w K mg base 4 "_law_place" F__law_place := by
  have M := mg_of X G s
  obtain ⟨fd, FD⟩ := def_at s (x := "_law_place") (i := 130) 88 rfl
  have hm := glo_at X G s z (x := "_law_place") (i := 130) 88 rfl
  exact cal__law_place M FD hm (kc__law_plus X G s z) (kc__law_ratio X G s z) (kc__law_step_sum X G s z) (kc__law_x X G s z)
theorem kc__law_power_sum (X : K.In h) (G : h.Ns mainGlobals mg) (s : He.SaysD faL fnL K) (z : nofn0 K = true) : CF P w K mg base 1 "_law_power_sum" F__law_power_sum := by
  have M := mg_of X G s
  obtain ⟨fd, FD⟩ := def_at s (x := "_law_power_sum") (i := 121) 79 rfl
  have hm := glo_at X G s z (x := "_law_power_sum") (i := 121) 79 rfl
  exact cal__law_power_sum M FD hm 
theorem kc__law_slope (X : K.In h) (G : h.Ns mainGlobals mg) (s : He.SaysD faL fnL K) (z : nofn0 K = true) : CF P w K mg base 4 "_law_slope" F__law_slope := by
  have M := mg_of X G s
  obtain ⟨fd, FD⟩ := def_at s (x := "_law_slope") (i := 127) 85 rfl
  have hm := glo_at X G s z (x := "_law_slope") (i := 127) 85 rfl
  exact cal__law_slope M FD hm (kc__law_gcd X G s z) (kc__law_plus X G s z) (kc__law_ratio X G s z)
theorem kc__law_bound (X : K.In h) (G : h.Ns mainGlobals mg) (s : He.SaysD faL fnL K) (z : nofn0 K = true) : CF P w K mg base 5 "_law_bound" F__law_bound := by
  have M := mg_of X G s
  obtain ⟨fd, FD⟩ := def_at s (x := "_law_bound") (i := 137) 95 rfl
  have hm := glo_at X G s z (x := "_law_bound") (i := 137) 95 rfl
  exact cal__law_bound M FD hm (kc__law_ends X G s z) (kc__law_index X G s z) (kc__law_is_less X G s z) (kc__law_low X G s z) (kc__law_place X G s z) (kc__law_plus X G s z) (kc__law_power_sum X G s z) (kc__law_ratio X G s z) (kc__law_slope X G s z) (kc__law_x X G s z)
theorem kc__law_turned_sum (X : K.In h) (G : h.Ns mainGlobals mg) (s : He.SaysD faL fnL K) (z : nofn0 K = true) : CF P w K mg base 1 "_law_turned_sum" F__law_turned_sum := by
  have M := mg_of X G s
  obtain ⟨fd, FD⟩ := def_at s (x := "_law_turned_sum") (i := 123) 81 rfl
  have hm := glo_at X G s z (x := "_law_turned_sum") (i := 123) 81 rfl
  exact cal__law_turned_sum M FD hm 
theorem kc__law_fits (X : K.In h) (G : h.Ns mainGlobals mg) (s : He.SaysD faL fnL K) (z : nofn0 K = true) : CF P w K mg base 2 "_law_fits" F__law_fits := by
  have M := mg_of X G s
  obtain ⟨fd, FD⟩ := def_at s (x := "_law_fits") (i := 125) 83 rfl
  have hm := glo_at X G s z (x := "_law_fits") (i := 125) 83 rfl
  exact cal__law_fits M FD hm (kc__law_power_sum X G s z) (kc__law_step_sum X G s z) (kc__law_turned_sum X G s z)
theorem kc__law_kind (X : K.In h) (G : h.Ns mainGlobals mg) (s : He.SaysD faL fnL K) (z : nofn0 K = true) : CF P w K mg base 2 "_law_kind" F__law_kind := by
  have M := mg_of X G s
  obtain ⟨fd, FD⟩ := def_at s (x := "_law_kind") (i := 126) 84 rfl
  have hm := glo_at X G s z (x := "_law_kind") (i := 126) 84 rfl
  exact cal__law_kind M FD hm (kc__law_power_sum X G s z)
theorem kc__law_are_beside (X : K.In h) (G : h.Ns mainGlobals mg) (s : He.SaysD faL fnL K) (z : nofn0 K = true) : CF P w K mg base 3 "_law_are_beside" F__law_are_beside := by
  have M := mg_of X G s
  obtain ⟨fd, FD⟩ := def_at s (x := "_law_are_beside") (i := 133) 91 rfl
  have hm := glo_at X G s z (x := "_law_are_beside") (i := 133) 91 rfl
  exact cal__law_are_beside M FD hm (kc__law_fits X G s z) (kc__law_kind X G s z)
theorem kc__law_is_even_right (X : K.In h) (G : h.Ns mainGlobals mg) (s : He.SaysD faL fnL K) (z : nofn0 K = true) : CF P w K mg base 1 "_law_is_even_right" F__law_is_even_right := by
  have M := mg_of X G s
  obtain ⟨fd, FD⟩ := def_at s (x := "_law_is_even_right") (i := 132) 90 rfl
  have hm := glo_at X G s z (x := "_law_is_even_right") (i := 132) 90 rfl
  exact cal__law_is_even_right M FD hm 
theorem kc__law_serves (X : K.In h) (G : h.Ns mainGlobals mg) (s : He.SaysD faL fnL K) (z : nofn0 K = true) : CF P w K mg base 2 "_law_serves" F__law_serves := by
  have M := mg_of X G s
  obtain ⟨fd, FD⟩ := def_at s (x := "_law_serves") (i := 131) 89 rfl
  have hm := glo_at X G s z (x := "_law_serves") (i := 131) 89 rfl
  exact cal__law_serves M FD hm (kc__law_divisors X G s z) (kc__law_gcd X G s z) (kc__law_is_even_right X G s z) (kc__law_power_sum X G s z) (kc__law_step_sum X G s z)
theorem kc__law_serves_all (X : K.In h) (G : h.Ns mainGlobals mg) (s : He.SaysD faL fnL K) (z : nofn0 K = true) : CF P w K mg base 4 "_law_serves_all" F__law_serves_all := by
  have M := mg_of X G s
  obtain ⟨fd, FD⟩ := def_at s (x := "_law_serves_all") (i := 134) 92 rfl
  have hm := glo_at X G s z (x := "_law_serves_all") (i := 134) 92 rfl
  exact cal__law_serves_all M FD hm (kc__law_are_beside X G s z) (kc__law_serves X G s z)
theorem kc__law_least_level (X : K.In h) (G : h.Ns mainGlobals mg) (s : He.SaysD faL fnL K) (z : nofn0 K = true) : CF P w K mg base 5 "_law_least_level" F__law_least_level := by
  have M := mg_of X G s
  obtain ⟨fd, FD⟩ := def_at s (x := "_law_least_level") (i := 135) 93 rfl
  have hm := glo_at X G s z (x := "_law_least_level") (i := 135) 93 rfl
  exact cal__law_least_level M FD hm (kc__law_serves_all X G s z)
theorem kc__law_row (X : K.In h) (G : h.Ns mainGlobals mg) (s : He.SaysD faL fnL K) (z : nofn0 K = true) : CF P w K mg base 1 "_law_row" F__law_row := by
  have M := mg_of X G s
  obtain ⟨fd, FD⟩ := def_at s (x := "_law_row") (i := 128) 86 rfl
  have hm := glo_at X G s z (x := "_law_row") (i := 128) 86 rfl
  exact cal__law_row M FD hm 
theorem kc__law_sides (X : K.In h) (G : h.Ns mainGlobals mg) (s : He.SaysD faL fnL K) (z : nofn0 K = true) : CF P w K mg base 5 "_law_sides" F__law_sides := by
  have M := mg_of X G s
  obtain ⟨fd, FD⟩ := def_at s (x := "_law_sides") (i := 138) 96 rfl
  have hm := glo_at X G s z (x := "_law_sides") (i := 138) 96 rfl
  exact cal__law_sides M FD hm (kc__law_place X G s z) (kc__law_row X G s z)
theorem kc__law_read_off (X : K.In h) (G : h.Ns mainGlobals mg) (s : He.SaysD faL fnL K) (z : nofn0 K = true) : CF P w K mg base 6 "_law_read_off" F__law_read_off := by
  have M := mg_of X G s
  obtain ⟨fd, FD⟩ := def_at s (x := "_law_read_off") (i := 143) 101 rfl
  have hm := glo_at X G s z (x := "_law_read_off") (i := 143) 101 rfl
  exact cal__law_read_off M FD hm (kc__law_place X G s z) (kc__law_row X G s z) (kc__law_sides X G s z)
theorem kc__law_product (X : K.In h) (G : h.Ns mainGlobals mg) (s : He.SaysD faL fnL K) (z : nofn0 K = true) : CF P w K mg base 1 "_law_product" F__law_product := by
  have M := mg_of X G s
  obtain ⟨fd, FD⟩ := def_at s (x := "_law_product") (i := 124) 82 rfl
  have hm := glo_at X G s z (x := "_law_product") (i := 124) 82 rfl
  exact cal__law_product M FD hm 
theorem kc__law_told (X : K.In h) (G : h.Ns mainGlobals mg) (s : He.SaysD faL fnL K) (z : nofn0 K = true) : CF P w K mg base 2 "_law_told" F__law_told := by
  have M := mg_of X G s
  obtain ⟨fd, FD⟩ := def_at s (x := "_law_told") (i := 142) 100 rfl
  have hm := glo_at X G s z (x := "_law_told") (i := 142) 100 rfl
  exact cal__law_told M FD hm (kc__law_product X G s z)
theorem kc__law_due (X : K.In h) (G : h.Ns mainGlobals mg) (s : He.SaysD faL fnL K) (z : nofn0 K = true) : CF P w K mg base 7 "_law_due" F__law_due := by
  have M := mg_of X G s
  obtain ⟨fd, FD⟩ := def_at s (x := "_law_due") (i := 144) 102 rfl
  have hm := glo_at X G s z (x := "_law_due") (i := 144) 102 rfl
  exact cal__law_due M FD hm (kc__law_bound X G s z) (kc__law_least_level X G s z) (kc__law_place X G s z) (kc__law_read_off X G s z) (kc__law_sides X G s z) (kc__law_told X G s z)
theorem kc__law_both (X : K.In h) (G : h.Ns mainGlobals mg) (s : He.SaysD faL fnL K) (z : nofn0 K = true) : CF P w K mg base 1 "_law_both" F__law_both := by
  have M := mg_of X G s
  obtain ⟨fd, FD⟩ := def_at s (x := "_law_both") (i := 140) 98 rfl
  have hm := glo_at X G s z (x := "_law_both") (i := 140) 98 rfl
  exact cal__law_both M FD hm 
theorem kc__law_choices (X : K.In h) (G : h.Ns mainGlobals mg) (s : He.SaysD faL fnL K) (z : nofn0 K = true) : CF P w K mg base 2 "_law_choices" F__law_choices := by
  have M := mg_of X G s
  obtain ⟨fd, FD⟩ := def_at s (x := "_law_choices") (i := 145) 103 rfl
  have hm := glo_at X G s z (x := "_law_choices") (i := 145) 103 rfl
  exact cal__law_choices M FD hm (kc__law_both X G s z) (kc__law_divisors X G s z) (kc__law_power_sum X G s z)
theorem kc__law_chosen (X : K.In h) (G : h.Ns mainGlobals mg) (s : He.SaysD faL fnL K) (z : nofn0 K = true) (ht : PySem.W.tabIn K "_law_chosen" = some (c, T)) (TB : LamX.TabB base mg c T) : Cal P w K mg base 5 "_law_chosen" (spT K T F__law_chosen) [] := by
  have M := mg_of X G s
  obtain ⟨fd, FD⟩ := def_at s (x := "_law_chosen") (i := 146) 104 rfl
  have hm := glo_at X G s z (x := "_law_chosen") (i := 146) 104 rfl
  have hcd : fd.code = .ref c := by
    obtain ⟨oc, od, dV, kV, doc, pm, an, cdv, ct, osl, e, lk, _⟩ := FD.ex
    rw [e]
    rw [e] at lk
    exact tab_code (ns_at s z (x := "_law_chosen") (i := 146) 104 rfl) lk ht
  exact cal__law_chosen M FD hcd TB hm (kc__law_are_beside X G s z) (kc__law_choices X G s z) (kc__law_place X G s z) (kc__law_power_sum X G s z) (kc__law_product X G s z)
theorem kc__law_pick (X : K.In h) (G : h.Ns mainGlobals mg) (s : He.SaysD faL fnL K) (z : nofn0 K = true) : CN P w K mg base 2 "_law_pick" G__law_pick := by
  have M := mg_of X G s
  obtain ⟨fd, FD⟩ := def_at s (x := "_law_pick") (i := 113) 71 rfl
  have hm := glo_at X G s z (x := "_law_pick") (i := 113) 71 rfl
  exact cal__law_pick M FD hm (kc__law_draw X G s z)
theorem kc_powers_of (X : K.In h) (G : h.Ns mainGlobals mg) (s : He.SaysD faL fnL K) (z : nofn0 K = true) : CO P w K mg base 1 "powers_of" F_powers_of := by
  have M := mg_of X G s
  obtain ⟨fd, FD⟩ := def_at s (x := "powers_of") (i := 35) 15 rfl
  have hm := glo_at X G s z (x := "powers_of") (i := 35) 15 rfl
  exact cal_powers_of M FD hm 
theorem kc_quotient_powers (X : K.In h) (G : h.Ns mainGlobals mg) (s : He.SaysD faL fnL K) (z : nofn0 K = true) : CF P w K mg base 2 "quotient_powers" F_quotient_powers := by
  have M := mg_of X G s
  obtain ⟨fd, FD⟩ := def_at s (x := "quotient_powers") (i := 91) 51 rfl
  have hm := glo_at X G s z (x := "quotient_powers") (i := 91) 51 rfl
  exact cal_quotient_powers M FD hm (kc_powers_of X G s z)
theorem kc_primes_in (X : K.In h) (G : h.Ns mainGlobals mg) (s : He.SaysD faL fnL K) (z : nofn0 K = true) : CF P w K mg base 1 "primes_in" F_primes_in := by
  have M := mg_of X G s
  obtain ⟨fd, FD⟩ := def_at s (x := "primes_in") (i := 23) 8 rfl
  have hm := glo_at X G s z (x := "primes_in") (i := 23) 8 rfl
  exact cal_primes_in M FD hm 
theorem kc_square_free_in (X : K.In h) (G : h.Ns mainGlobals mg) (s : He.SaysD faL fnL K) (z : nofn0 K = true) : CF P w K mg base 2 "square_free_in" F_square_free_in := by
  have M := mg_of X G s
  obtain ⟨fd, FD⟩ := def_at s (x := "square_free_in") (i := 42) 21 rfl
  have hm := glo_at X G s z (x := "square_free_in") (i := 42) 21 rfl
  exact cal_square_free_in M FD hm (kc_primes_in X G s z)
theorem kc_is_beside (X : K.In h) (G : h.Ns mainGlobals mg) (s : He.SaysD faL fnL K) (z : nofn0 K = true) : CF P w K mg base 3 "is_beside" F_is_beside := by
  have M := mg_of X G s
  obtain ⟨fd, FD⟩ := def_at s (x := "is_beside") (i := 92) 52 rfl
  have hm := glo_at X G s z (x := "is_beside") (i := 92) 52 rfl
  exact cal_is_beside M FD hm (kc_quotient_powers X G s z) (kc_square_free_in X G s z)
theorem kc_greatest_common (X : K.In h) (G : h.Ns mainGlobals mg) (s : He.SaysD faL fnL K) (z : nofn0 K = true) : CF P w K mg base 1 "greatest_common" nGcd := by
  have M := mg_of X G s
  obtain ⟨fd, FD⟩ := def_at s (x := "greatest_common") (i := 20) 5 rfl
  have hm := glo_at X G s z (x := "greatest_common") (i := 20) 5 rfl
  exact cal_imp (cal_greatest_common M FD hm ) gcd_F
theorem kc_made_ratio (X : K.In h) (G : h.Ns mainGlobals mg) (s : He.SaysD faL fnL K) (z : nofn0 K = true) : CF P w K mg base 2 "made_ratio" F_made_ratio := by
  have M := mg_of X G s
  obtain ⟨fd, FD⟩ := def_at s (x := "made_ratio") (i := 37) 16 rfl
  have hm := glo_at X G s z (x := "made_ratio") (i := 37) 16 rfl
  exact cal_made_ratio M FD hm (kc_greatest_common X G s z)
theorem kc_difference_of (X : K.In h) (G : h.Ns mainGlobals mg) (s : He.SaysD faL fnL K) (z : nofn0 K = true) : CF P w K mg base 3 "difference_of" F_difference_of := by
  have M := mg_of X G s
  obtain ⟨fd, FD⟩ := def_at s (x := "difference_of") (i := 38) 17 rfl
  have hm := glo_at X G s z (x := "difference_of") (i := 38) 17 rfl
  exact cal_difference_of M FD hm (kc_made_ratio X G s z)
theorem kc_is_whole_ratio (X : K.In h) (G : h.Ns mainGlobals mg) (s : He.SaysD faL fnL K) (z : nofn0 K = true) : CF P w K mg base 1 "is_whole_ratio" F_is_whole_ratio := by
  have M := mg_of X G s
  obtain ⟨fd, FD⟩ := def_at s (x := "is_whole_ratio") (i := 41) 20 rfl
  have hm := glo_at X G s z (x := "is_whole_ratio") (i := 41) 20 rfl
  exact cal_is_whole_ratio M FD hm 
theorem kc_step_sum (X : K.In h) (G : h.Ns mainGlobals mg) (s : He.SaysD faL fnL K) (z : nofn0 K = true) : CF P w K mg base 1 "step_sum" F_step_sum := by
  have M := mg_of X G s
  obtain ⟨fd, FD⟩ := def_at s (x := "step_sum") (i := 47) 23 rfl
  have hm := glo_at X G s z (x := "step_sum") (i := 47) 23 rfl
  exact cal_step_sum M FD hm 
theorem kc_rest_ratio (X : K.In h) (G : h.Ns mainGlobals mg) (s : He.SaysD faL fnL K) (z : nofn0 K = true) : CF P w K mg base 3 "rest_ratio" F_rest_ratio := by
  have M := mg_of X G s
  obtain ⟨fd, FD⟩ := def_at s (x := "rest_ratio") (i := 88) 48 rfl
  have hm := glo_at X G s z (x := "rest_ratio") (i := 88) 48 rfl
  exact cal_rest_ratio M FD hm (kc_made_ratio X G s z) (kc_step_sum X G s z)
theorem kc_shift_by (X : K.In h) (G : h.Ns mainGlobals mg) (s : He.SaysD faL fnL K) (z : nofn0 K = true) : CF P w K mg base 3 "shift_by" F_shift_by := by
  have M := mg_of X G s
  obtain ⟨fd, FD⟩ := def_at s (x := "shift_by") (i := 49) 25 rfl
  have hm := glo_at X G s z (x := "shift_by") (i := 49) 25 rfl
  exact cal_shift_by M FD hm (kc_made_ratio X G s z) (kc_step_sum X G s z)
theorem kc_place_of_term (X : K.In h) (G : h.Ns mainGlobals mg) (s : He.SaysD faL fnL K) (z : nofn0 K = true) : CF P w K mg base 4 "place_of_term" F_place_of_term := by
  have M := mg_of X G s
  obtain ⟨fd, FD⟩ := def_at s (x := "place_of_term") (i := 89) 49 rfl
  have hm := glo_at X G s z (x := "place_of_term") (i := 89) 49 rfl
  exact cal_place_of_term M FD hm (kc_difference_of X G s z) (kc_is_whole_ratio X G s z) (kc_rest_ratio X G s z) (kc_shift_by X G s z)
theorem kc_power_sum (X : K.In h) (G : h.Ns mainGlobals mg) (s : He.SaysD faL fnL K) (z : nofn0 K = true) : CF P w K mg base 1 "power_sum" F_power_sum := by
  have M := mg_of X G s
  obtain ⟨fd, FD⟩ := def_at s (x := "power_sum") (i := 46) 22 rfl
  have hm := glo_at X G s z (x := "power_sum") (i := 46) 22 rfl
  exact cal_power_sum M FD hm 
theorem kc_product_of_row (X : K.In h) (G : h.Ns mainGlobals mg) (s : He.SaysD faL fnL K) (z : nofn0 K = true) : CF P w K mg base 1 "product_of_row" F_product_of_row := by
  have M := mg_of X G s
  obtain ⟨fd, FD⟩ := def_at s (x := "product_of_row") (i := 55) 28 rfl
  have hm := glo_at X G s z (x := "product_of_row") (i := 55) 28 rfl
  exact cal_product_of_row M FD hm 
theorem kc_rows_of_powers (X : K.In h) (G : h.Ns mainGlobals mg) (s : He.SaysD faL fnL K) (z : nofn0 K = true) : CF P w K mg base 1 "rows_of_powers" F_rows_of_powers := by
  have M := mg_of X G s
  obtain ⟨fd, FD⟩ := def_at s (x := "rows_of_powers") (i := 54) 27 rfl
  have hm := glo_at X G s z (x := "rows_of_powers") (i := 54) 27 rfl
  exact cal_rows_of_powers M FD hm 
theorem kc_chosen_of (X : K.In h) (G : h.Ns mainGlobals mg) (s : He.SaysD faL fnL K) (z : nofn0 K = true) : CO P w K mg base 5 "chosen_of" F_chosen_of := by
  have M := mg_of X G s
  obtain ⟨fd, FD⟩ := def_at s (x := "chosen_of") (i := 106) 65 rfl
  have hm := glo_at X G s z (x := "chosen_of") (i := 106) 65 rfl
  exact cal_chosen_of M FD hm (kc_is_beside X G s z) (kc_place_of_term X G s z) (kc_power_sum X G s z) (kc_product_of_row X G s z) (kc_rows_of_powers X G s z)
theorem kc_divisors_in (X : K.In h) (G : h.Ns mainGlobals mg) (s : He.SaysD faL fnL K) (z : nofn0 K = true) : CF P w K mg base 1 "divisors_in" F_divisors_in := by
  have M := mg_of X G s
  obtain ⟨fd, FD⟩ := def_at s (x := "divisors_in") (i := 22) 7 rfl
  have hm := glo_at X G s z (x := "divisors_in") (i := 22) 7 rfl
  exact cal_divisors_in M FD hm 
theorem kc_small_divisors (X : K.In h) (G : h.Ns mainGlobals mg) (s : He.SaysD faL fnL K) (z : nofn0 K = true) : CF P w K mg base 2 "small_divisors" F_small_divisors := by
  have M := mg_of X G s
  obtain ⟨fd, FD⟩ := def_at s (x := "small_divisors") (i := 53) 26 rfl
  have hm := glo_at X G s z (x := "small_divisors") (i := 53) 26 rfl
  exact cal_small_divisors M FD hm (kc_divisors_in X G s z)
theorem kc_want_at_most (X : K.In h) (G : h.Ns mainGlobals mg) (s : He.SaysD faL fnL K) (z : nofn0 K = true) : CF P w K mg base 1 "want_at_most" F_want_at_most := by
  have M := mg_of X G s
  obtain ⟨fd, FD⟩ := def_at s (x := "want_at_most") (i := 17) 4 rfl
  have hm := glo_at X G s z (x := "want_at_most") (i := 17) 4 rfl
  exact cal_want_at_most M FD hm 
theorem kc_want_choices (X : K.In h) (G : h.Ns mainGlobals mg) (s : He.SaysD faL fnL K) (z : nofn0 K = true) : CF P w K mg base 3 "want_choices" F_want_choices := by
  have M := mg_of X G s
  obtain ⟨fd, FD⟩ := def_at s (x := "want_choices") (i := 56) 29 rfl
  have hm := glo_at X G s z (x := "want_choices") (i := 56) 29 rfl
  exact cal_want_choices M FD hm (kc_small_divisors X G s z) (kc_want_at_most X G s z)
theorem kc_is_integer (X : K.In h) (G : h.Ns mainGlobals mg) (s : He.SaysD faL fnL K) (z : nofn0 K = true) : CF P w K mg base 1 "is_integer" F_is_integer := by
  have M := mg_of X G s
  obtain ⟨fd, FD⟩ := def_at s (x := "is_integer") (i := 13) 0 rfl
  have hm := glo_at X G s z (x := "is_integer") (i := 13) 0 rfl
  exact cal_is_integer M FD hm 
theorem kc_is_between (X : K.In h) (G : h.Ns mainGlobals mg) (s : He.SaysD faL fnL K) (z : nofn0 K = true) : CF P w K mg base 2 "is_between" F_is_between := by
  have M := mg_of X G s
  obtain ⟨fd, FD⟩ := def_at s (x := "is_between") (i := 15) 2 rfl
  have hm := glo_at X G s z (x := "is_between") (i := 15) 2 rfl
  exact cal_is_between M FD hm (kc_is_integer X G s z)
theorem kc_want_level (X : K.In h) (G : h.Ns mainGlobals mg) (s : He.SaysD faL fnL K) (z : nofn0 K = true) : CF P w K mg base 3 "want_level" F_want_level := by
  have M := mg_of X G s
  obtain ⟨fd, FD⟩ := def_at s (x := "want_level") (i := 26) 11 rfl
  have hm := glo_at X G s z (x := "want_level") (i := 26) 11 rfl
  exact cal_want_level M FD hm (kc_is_between X G s z)
theorem kc_is_count (X : K.In h) (G : h.Ns mainGlobals mg) (s : He.SaysD faL fnL K) (z : nofn0 K = true) : CF P w K mg base 2 "is_count" F_is_count := by
  have M := mg_of X G s
  obtain ⟨fd, FD⟩ := def_at s (x := "is_count") (i := 14) 1 rfl
  have hm := glo_at X G s z (x := "is_count") (i := 14) 1 rfl
  exact cal_is_count M FD hm (kc_is_integer X G s z)
theorem kc_is_power_pair (X : K.In h) (G : h.Ns mainGlobals mg) (s : He.SaysD faL fnL K) (z : nofn0 K = true) : CF P w K mg base 2 "is_power_pair" F_is_power_pair := by
  have M := mg_of X G s
  obtain ⟨fd, FD⟩ := def_at s (x := "is_power_pair") (i := 32) 12 rfl
  have hm := glo_at X G s z (x := "is_power_pair") (i := 32) 12 rfl
  exact cal_is_power_pair M FD hm (kc_is_integer X G s z)
theorem kc_is_product_value (X : K.In h) (G : h.Ns mainGlobals mg) (s : He.SaysD faL fnL K) (z : nofn0 K = true) : CF P w K mg base 3 "is_product_value" F_is_product_value := by
  have M := mg_of X G s
  obtain ⟨fd, FD⟩ := def_at s (x := "is_product_value") (i := 33) 13 rfl
  have hm := glo_at X G s z (x := "is_product_value") (i := 33) 13 rfl
  exact cal_is_product_value M FD hm (kc_is_power_pair X G s z)
theorem kc_want_product (X : K.In h) (G : h.Ns mainGlobals mg) (s : He.SaysD faL fnL K) (z : nofn0 K = true) : CF P w K mg base 4 "want_product" F_want_product := by
  have M := mg_of X G s
  obtain ⟨fd, FD⟩ := def_at s (x := "want_product") (i := 34) 14 rfl
  have hm := glo_at X G s z (x := "want_product") (i := 34) 14 rfl
  exact cal_want_product M FD hm (kc_is_product_value X G s z)
theorem kc_want_step (X : K.In h) (G : h.Ns mainGlobals mg) (s : He.SaysD faL fnL K) (z : nofn0 K = true) : CF P w K mg base 3 "want_step" F_want_step := by
  have M := mg_of X G s
  obtain ⟨fd, FD⟩ := def_at s (x := "want_step") (i := 63) 33 rfl
  have hm := glo_at X G s z (x := "want_step") (i := 63) 33 rfl
  exact cal_want_step M FD hm (kc_is_count X G s z)
theorem kc_want_section (X : K.In h) (G : h.Ns mainGlobals mg) (s : He.SaysD faL fnL K) (z : nofn0 K = true) : CF P w K mg base 5 "want_section" F_want_section := by
  have M := mg_of X G s
  obtain ⟨fd, FD⟩ := def_at s (x := "want_section") (i := 64) 34 rfl
  have hm := glo_at X G s z (x := "want_section") (i := 64) 34 rfl
  exact cal_want_section M FD hm (kc_is_count X G s z) (kc_want_product X G s z) (kc_want_step X G s z)
theorem kc_want_size (X : K.In h) (G : h.Ns mainGlobals mg) (s : He.SaysD faL fnL K) (z : nofn0 K = true) : CF P w K mg base 3 "want_size" F_want_size := by
  have M := mg_of X G s
  obtain ⟨fd, FD⟩ := def_at s (x := "want_size") (i := 57) 30 rfl
  have hm := glo_at X G s z (x := "want_size") (i := 57) 30 rfl
  exact cal_want_size M FD hm (kc_is_between X G s z)
theorem kc_candidates (X : K.In h) (G : h.Ns mainGlobals mg) (s : He.SaysD faL fnL K) (z : nofn0 K = true) : CO P w K mg base 6 "candidates" F_candidates := by
  have M := mg_of X G s
  obtain ⟨fd, FD⟩ := def_at s (x := "candidates") (i := 108) 67 rfl
  have hm := glo_at X G s z (x := "candidates") (i := 108) 67 rfl
  exact cal_candidates M FD hm (kc_chosen_of X G s z) (kc_want_choices X G s z) (kc_want_level X G s z) (kc_want_section X G s z) (kc_want_size X G s z)
theorem kc_step_sums (X : K.In h) (G : h.Ns mainGlobals mg) (s : He.SaysD faL fnL K) (z : nofn0 K = true) : CF P w K mg base 2 "step_sums" F_step_sums := by
  have M := mg_of X G s
  obtain ⟨fd, FD⟩ := def_at s (x := "step_sums") (i := 81) 46 rfl
  have hm := glo_at X G s z (x := "step_sums") (i := 81) 46 rfl
  exact cal_step_sums M FD hm (kc_powers_of X G s z)
theorem kc_numbers_of (X : K.In h) (G : h.Ns mainGlobals mg) (s : He.SaysD faL fnL K) (z : nofn0 K = true) : CF P w K mg base 3 "numbers_of" F_numbers_of := by
  have M := mg_of X G s
  obtain ⟨fd, FD⟩ := def_at s (x := "numbers_of") (i := 82) 47 rfl
  have hm := glo_at X G s z (x := "numbers_of") (i := 82) 47 rfl
  exact cal_numbers_of M FD hm (kc_step_sums X G s z)
theorem kc_left_row (X : K.In h) (G : h.Ns mainGlobals mg) (s : He.SaysD faL fnL K) (z : nofn0 K = true) : CO P w K mg base 4 "left_row" F_left_row := by
  have M := mg_of X G s
  obtain ⟨fd, FD⟩ := def_at s (x := "left_row") (i := 98) 58 rfl
  have hm := glo_at X G s z (x := "left_row") (i := 98) 58 rfl
  exact cal_left_row M FD hm (kc_numbers_of X G s z)
theorem kc_coefficients_of (X : K.In h) (G : h.Ns mainGlobals mg) (s : He.SaysD faL fnL K) (z : nofn0 K = true) : CF P w K mg base 5 "coefficients_of" F_coefficients_of := by
  have M := mg_of X G s
  obtain ⟨fd, FD⟩ := def_at s (x := "coefficients_of") (i := 104) 63 rfl
  have hm := glo_at X G s z (x := "coefficients_of") (i := 104) 63 rfl
  exact cal_coefficients_of M FD hm (kc_left_row X G s z) (kc_numbers_of X G s z) (kc_place_of_term X G s z)
theorem kc_right_row (X : K.In h) (G : h.Ns mainGlobals mg) (s : He.SaysD faL fnL K) (z : nofn0 K = true) : CF P w K mg base 5 "right_row" F_right_row := by
  have M := mg_of X G s
  obtain ⟨fd, FD⟩ := def_at s (x := "right_row") (i := 99) 59 rfl
  have hm := glo_at X G s z (x := "right_row") (i := 99) 59 rfl
  exact cal_right_row M FD hm (kc_numbers_of X G s z) (kc_place_of_term X G s z)
theorem kc_first_parting (X : K.In h) (G : h.Ns mainGlobals mg) (s : He.SaysD faL fnL K) (z : nofn0 K = true) : CF P w K mg base 6 "first_parting" F_first_parting := by
  have M := mg_of X G s
  obtain ⟨fd, FD⟩ := def_at s (x := "first_parting") (i := 100) 60 rfl
  have hm := glo_at X G s z (x := "first_parting") (i := 100) 60 rfl
  exact cal_first_parting M FD hm (kc_left_row X G s z) (kc_right_row X G s z)
theorem kc_beside_count (X : K.In h) (G : h.Ns mainGlobals mg) (s : He.SaysD faL fnL K) (z : nofn0 K = true) : CF P w K mg base 2 "beside_count" F_beside_count := by
  have M := mg_of X G s
  obtain ⟨fd, FD⟩ := def_at s (x := "beside_count") (i := 24) 9 rfl
  have hm := glo_at X G s z (x := "beside_count") (i := 24) 9 rfl
  exact cal_beside_count M FD hm (kc_primes_in X G s z)
theorem kc_width_of (X : K.In h) (G : h.Ns mainGlobals mg) (s : He.SaysD faL fnL K) (z : nofn0 K = true) : CF P w K mg base 2 "width_of" F_width_of := by
  have M := mg_of X G s
  obtain ⟨fd, FD⟩ := def_at s (x := "width_of") (i := 59) 31 rfl
  have hm := glo_at X G s z (x := "width_of") (i := 59) 31 rfl
  exact cal_width_of M FD hm (kc_greatest_common X G s z)
theorem kc_ends_of (X : K.In h) (G : h.Ns mainGlobals mg) (s : He.SaysD faL fnL K) (z : nofn0 K = true) : CF P w K mg base 3 "ends_of" F_ends_of := by
  have M := mg_of X G s
  obtain ⟨fd, FD⟩ := def_at s (x := "ends_of") (i := 60) 32 rfl
  have hm := glo_at X G s z (x := "ends_of") (i := 60) 32 rfl
  exact cal_ends_of M FD hm (kc_beside_count X G s z) (kc_divisors_in X G s z) (kc_greatest_common X G s z) (kc_width_of X G s z)
theorem kc_index_in (X : K.In h) (G : h.Ns mainGlobals mg) (s : He.SaysD faL fnL K) (z : nofn0 K = true) : CF P w K mg base 2 "index_in" F_index_in := by
  have M := mg_of X G s
  obtain ⟨fd, FD⟩ := def_at s (x := "index_in") (i := 25) 10 rfl
  have hm := glo_at X G s z (x := "index_in") (i := 25) 10 rfl
  exact cal_index_in M FD hm (kc_primes_in X G s z)
theorem kc_is_less_ratio (X : K.In h) (G : h.Ns mainGlobals mg) (s : He.SaysD faL fnL K) (z : nofn0 K = true) : CF P w K mg base 1 "is_less_ratio" F_is_less_ratio := by
  have M := mg_of X G s
  obtain ⟨fd, FD⟩ := def_at s (x := "is_less_ratio") (i := 40) 19 rfl
  have hm := glo_at X G s z (x := "is_less_ratio") (i := 40) 19 rfl
  exact cal_is_less_ratio M FD hm 
theorem kc_least_multiple (X : K.In h) (G : h.Ns mainGlobals mg) (s : He.SaysD faL fnL K) (z : nofn0 K = true) : CF P w K mg base 2 "least_multiple" F_least_multiple := by
  have M := mg_of X G s
  obtain ⟨fd, FD⟩ := def_at s (x := "least_multiple") (i := 21) 6 rfl
  have hm := glo_at X G s z (x := "least_multiple") (i := 21) 6 rfl
  exact cal_least_multiple M FD hm (kc_greatest_common X G s z)
theorem kc_common_steps (X : K.In h) (G : h.Ns mainGlobals mg) (s : He.SaysD faL fnL K) (z : nofn0 K = true) : CF P w K mg base 3 "common_steps" F_common_steps := by
  have M := mg_of X G s
  obtain ⟨fd, FD⟩ := def_at s (x := "common_steps") (i := 75) 43 rfl
  have hm := glo_at X G s z (x := "common_steps") (i := 75) 43 rfl
  exact cal_common_steps M FD hm (kc_least_multiple X G s z)
theorem kc_factor_of (X : K.In h) (G : h.Ns mainGlobals mg) (s : He.SaysD faL fnL K) (z : nofn0 K = true) : CF P w K mg base 2 "factor_of" F_factor_of := by
  have M := mg_of X G s
  obtain ⟨fd, FD⟩ := def_at s (x := "factor_of") (i := 66) 35 rfl
  have hm := glo_at X G s z (x := "factor_of") (i := 66) 35 rfl
  exact cal_factor_of M FD hm (kc_greatest_common X G s z)
theorem kc_rests_at (X : K.In h) (G : h.Ns mainGlobals mg) (s : He.SaysD faL fnL K) (z : nofn0 K = true) : CF P w K mg base 3 "rests_at" F_rests_at := by
  have M := mg_of X G s
  obtain ⟨fd, FD⟩ := def_at s (x := "rests_at") (i := 74) 42 rfl
  have hm := glo_at X G s z (x := "rests_at") (i := 74) 42 rfl
  exact cal_rests_at M FD hm (kc_factor_of X G s z) (kc_greatest_common X G s z)
theorem kc_low_of (X : K.In h) (G : h.Ns mainGlobals mg) (s : He.SaysD faL fnL K) (z : nofn0 K = true) : CF P w K mg base 4 "low_of" F_low_of := by
  have M := mg_of X G s
  obtain ⟨fd, FD⟩ := def_at s (x := "low_of") (i := 76) 44 rfl
  have hm := glo_at X G s z (x := "low_of") (i := 76) 44 rfl
  exact cal_low_of M FD hm (kc_common_steps X G s z) (kc_greatest_common X G s z) (kc_made_ratio X G s z) (kc_rests_at X G s z)
theorem kc_product_of_two (X : K.In h) (G : h.Ns mainGlobals mg) (s : He.SaysD faL fnL K) (z : nofn0 K = true) : CF P w K mg base 3 "product_of_two" F_product_of_two := by
  have M := mg_of X G s
  obtain ⟨fd, FD⟩ := def_at s (x := "product_of_two") (i := 39) 18 rfl
  have hm := glo_at X G s z (x := "product_of_two") (i := 39) 18 rfl
  exact cal_product_of_two M FD hm (kc_made_ratio X G s z)
theorem kc_weighed_squares (X : K.In h) (G : h.Ns mainGlobals mg) (s : He.SaysD faL fnL K) (z : nofn0 K = true) : CF P w K mg base 3 "weighed_squares" F_weighed_squares := by
  have M := mg_of X G s
  obtain ⟨fd, FD⟩ := def_at s (x := "weighed_squares") (i := 95) 55 rfl
  have hm := glo_at X G s z (x := "weighed_squares") (i := 95) 55 rfl
  exact cal_weighed_squares M FD hm (kc_greatest_common X G s z) (kc_made_ratio X G s z)
theorem kc_bound_by_products (X : K.In h) (G : h.Ns mainGlobals mg) (s : He.SaysD faL fnL K) (z : nofn0 K = true) : CF P w K mg base 5 "bound_by_products" F_bound_by_products := by
  have M := mg_of X G s
  obtain ⟨fd, FD⟩ := def_at s (x := "bound_by_products") (i := 96) 56 rfl
  have hm := glo_at X G s z (x := "bound_by_products") (i := 96) 56 rfl
  exact cal_bound_by_products M FD hm (kc_difference_of X G s z) (kc_ends_of X G s z) (kc_index_in X G s z) (kc_is_less_ratio X G s z) (kc_low_of X G s z) (kc_place_of_term X G s z) (kc_power_sum X G s z) (kc_product_of_two X G s z) (kc_rest_ratio X G s z) (kc_weighed_squares X G s z)
theorem kc_places_wanted (X : K.In h) (G : h.Ns mainGlobals mg) (s : He.SaysD faL fnL K) (z : nofn0 K = true) : CF P w K mg base 6 "places_wanted" F_places_wanted := by
  have M := mg_of X G s
  obtain ⟨fd, FD⟩ := def_at s (x := "places_wanted") (i := 97) 57 rfl
  have hm := glo_at X G s z (x := "places_wanted") (i := 97) 57 rfl
  exact cal_places_wanted M FD hm (kc_bound_by_products X G s z) (kc_place_of_term X G s z)
theorem kc_want_digits (X : K.In h) (G : h.Ns mainGlobals mg) (s : He.SaysD faL fnL K) (z : nofn0 K = true) : CF P w K mg base 1 "want_digits" F_want_digits := by
  have M := mg_of X G s
  obtain ⟨fd, FD⟩ := def_at s (x := "want_digits") (i := 80) 45 rfl
  have hm := glo_at X G s z (x := "want_digits") (i := 80) 45 rfl
  exact cal_want_digits M FD hm 
theorem kc_are_steps_within (X : K.In h) (G : h.Ns mainGlobals mg) (s : He.SaysD faL fnL K) (z : nofn0 K = true) : CF P w K mg base 1 "are_steps_within" F_are_steps_within := by
  have M := mg_of X G s
  obtain ⟨fd, FD⟩ := def_at s (x := "are_steps_within") (i := 67) 36 rfl
  have hm := glo_at X G s z (x := "are_steps_within") (i := 67) 36 rfl
  exact cal_are_steps_within M FD hm 
theorem kc_twos_and_odd (X : K.In h) (G : h.Ns mainGlobals mg) (s : He.SaysD faL fnL K) (z : nofn0 K = true) : CF P w K mg base 1 "twos_and_odd" F_twos_and_odd := by
  have M := mg_of X G s
  obtain ⟨fd, FD⟩ := def_at s (x := "twos_and_odd") (i := 70) 39 rfl
  have hm := glo_at X G s z (x := "twos_and_odd") (i := 70) 39 rfl
  exact cal_twos_and_odd M FD hm 
theorem kc_is_even_right (X : K.In h) (G : h.Ns mainGlobals mg) (s : He.SaysD faL fnL K) (z : nofn0 K = true) : CF P w K mg base 3 "is_even_right" F_is_even_right := by
  have M := mg_of X G s
  obtain ⟨fd, FD⟩ := def_at s (x := "is_even_right") (i := 71) 40 rfl
  have hm := glo_at X G s z (x := "is_even_right") (i := 71) 40 rfl
  exact cal_is_even_right M FD hm (kc_factor_of X G s z) (kc_twos_and_odd X G s z)
theorem kc_is_met_by (X : K.In h) (G : h.Ns mainGlobals mg) (s : He.SaysD faL fnL K) (z : nofn0 K = true) : CF P w K mg base 3 "is_met_by" F_is_met_by := by
  have M := mg_of X G s
  obtain ⟨fd, FD⟩ := def_at s (x := "is_met_by") (i := 69) 38 rfl
  have hm := glo_at X G s z (x := "is_met_by") (i := 69) 38 rfl
  exact cal_is_met_by M FD hm (kc_factor_of X G s z) (kc_greatest_common X G s z) (kc_step_sum X G s z)
theorem kc_weighed_steps (X : K.In h) (G : h.Ns mainGlobals mg) (s : He.SaysD faL fnL K) (z : nofn0 K = true) : CF P w K mg base 1 "weighed_steps" F_weighed_steps := by
  have M := mg_of X G s
  obtain ⟨fd, FD⟩ := def_at s (x := "weighed_steps") (i := 68) 37 rfl
  have hm := glo_at X G s z (x := "weighed_steps") (i := 68) 37 rfl
  exact cal_weighed_steps M FD hm 
theorem kc_first_unserved (X : K.In h) (G : h.Ns mainGlobals mg) (s : He.SaysD faL fnL K) (z : nofn0 K = true) : CF P w K mg base 4 "first_unserved" F_first_unserved := by
  have M := mg_of X G s
  obtain ⟨fd, FD⟩ := def_at s (x := "first_unserved") (i := 72) 41 rfl
  have hm := glo_at X G s z (x := "first_unserved") (i := 72) 41 rfl
  exact cal_first_unserved M FD hm (kc_are_steps_within X G s z) (kc_factor_of X G s z) (kc_is_even_right X G s z) (kc_is_met_by X G s z) (kc_power_sum X G s z) (kc_primes_in X G s z) (kc_weighed_steps X G s z)
theorem kc_steps_divide (X : K.In h) (G : h.Ns mainGlobals mg) (s : He.SaysD faL fnL K) (z : nofn0 K = true) : CF P w K mg base 1 "steps_divide" F_steps_divide := by
  have M := mg_of X G s
  obtain ⟨fd, FD⟩ := def_at s (x := "steps_divide") (i := 48) 24 rfl
  have hm := glo_at X G s z (x := "steps_divide") (i := 48) 24 rfl
  exact cal_steps_divide M FD hm 
theorem kc_serves_products (X : K.In h) (G : h.Ns mainGlobals mg) (s : He.SaysD faL fnL K) (z : nofn0 K = true) : CF P w K mg base 5 "serves_products" F_serves_products := by
  have M := mg_of X G s
  obtain ⟨fd, FD⟩ := def_at s (x := "serves_products") (i := 93) 53 rfl
  have hm := glo_at X G s z (x := "serves_products") (i := 93) 53 rfl
  exact cal_serves_products M FD hm (kc_first_unserved X G s z) (kc_is_beside X G s z) (kc_steps_divide X G s z)
theorem kc_least_level_for (X : K.In h) (G : h.Ns mainGlobals mg) (s : He.SaysD faL fnL K) (z : nofn0 K = true) : CF P w K mg base 6 "least_level_for" F_least_level_for := by
  have M := mg_of X G s
  obtain ⟨fd, FD⟩ := def_at s (x := "least_level_for") (i := 94) 54 rfl
  have hm := glo_at X G s z (x := "least_level_for") (i := 94) 54 rfl
  exact cal_least_level_for M FD hm (kc_serves_products X G s z)
theorem kc_want_level_for (X : K.In h) (G : h.Ns mainGlobals mg) (s : He.SaysD faL fnL K) (z : nofn0 K = true) : CF P w K mg base 7 "want_level_for" F_want_level_for := by
  have M := mg_of X G s
  obtain ⟨fd, FD⟩ := def_at s (x := "want_level_for") (i := 102) 62 rfl
  have hm := glo_at X G s z (x := "want_level_for") (i := 102) 62 rfl
  exact cal_want_level_for M FD hm (kc_least_level_for X G s z)
theorem kc_want_reached (X : K.In h) (G : h.Ns mainGlobals mg) (s : He.SaysD faL fnL K) (z : nofn0 K = true) : CF P w K mg base 1 "want_reached" F_want_reached := by
  have M := mg_of X G s
  obtain ⟨fd, FD⟩ := def_at s (x := "want_reached") (i := 101) 61 rfl
  have hm := glo_at X G s z (x := "want_reached") (i := 101) 61 rfl
  exact cal_want_reached M FD hm 
theorem kc_found_of (X : K.In h) (G : h.Ns mainGlobals mg) (s : He.SaysD faL fnL K) (z : nofn0 K = true) : CF P w K mg base 8 "found_of" F_found_of := by
  have M := mg_of X G s
  obtain ⟨fd, FD⟩ := def_at s (x := "found_of") (i := 105) 64 rfl
  have hm := glo_at X G s z (x := "found_of") (i := 105) 64 rfl
  exact cal_found_of M FD hm (kc_coefficients_of X G s z) (kc_first_parting X G s z) (kc_place_of_term X G s z) (kc_places_wanted X G s z) (kc_want_digits X G s z) (kc_want_level_for X G s z) (kc_want_reached X G s z)
theorem kc_looked (X : K.In h) (G : h.Ns mainGlobals mg) (s : He.SaysD faL fnL K) (z : nofn0 K = true) : CF P w K mg base 9 "looked" F_looked := by
  have M := mg_of X G s
  obtain ⟨fd, FD⟩ := def_at s (x := "looked") (i := 109) 68 rfl
  have hm := glo_at X G s z (x := "looked") (i := 109) 68 rfl
  exact cal_looked M FD hm (kc_candidates X G s z) (kc_found_of X G s z)
theorem kck_candidates (X : K.In h) (G : h.Ns mainGlobals mg) (s : He.SaysD faL fnL K) (z : nofn0 K = true) : CalK P w K mg base 6 "candidates" (spF K (RO K) F_candidates) ["many", "level", "t", "m", "product"] := by
  have M := mg_of X G s
  obtain ⟨fd, FD⟩ := def_at s (x := "candidates") (i := 108) 67 rfl
  have hm := glo_at X G s z (x := "candidates") (i := 108) 67 rfl
  exact calK_candidates M FD hm (kc_chosen_of X G s z) (kc_want_choices X G s z) (kc_want_level X G s z) (kc_want_section X G s z) (kc_want_size X G s z)
theorem kc__law_looked_right (X : K.In h) (G : h.Ns mainGlobals mg) (s : He.SaysD faL fnL K) (z : nofn0 K = true) (ht : PySem.W.tabIn K "_law_chosen" = some (c, T)) (TB : LamX.TabB base mg c T) : CalG P w K mg base 10 "_law_looked_right" (spNT K T G__law_looked_right) := by
  have M := mg_of X G s
  obtain ⟨fd, FD⟩ := def_at s (x := "_law_looked_right") (i := 147) 105 rfl
  have hm := glo_at X G s z (x := "_law_looked_right") (i := 147) 105 rfl
  exact cal__law_looked_right M FD hm (kc__law_chosen X G s z ht TB) (kc__law_due X G s z) (kc__law_pick X G s z) (kc__law_product X G s z) (kc_candidates X G s z) (kc_looked X G s z) (kck_candidates X G s z)
theorem kc__law_small (X : K.In h) (G : h.Ns mainGlobals mg) (s : He.SaysD faL fnL K) (z : nofn0 K = true) : CN P w K mg base 3 "_law_small" G__law_small := by
  have M := mg_of X G s
  obtain ⟨fd, FD⟩ := def_at s (x := "_law_small") (i := 141) 99 rfl
  have hm := glo_at X G s z (x := "_law_small") (i := 141) 99 rfl
  exact cal__law_small M FD hm (kc__law_pick X G s z)
theorem kc__law_made (X : K.In h) (G : h.Ns mainGlobals mg) (s : He.SaysD faL fnL K) (z : nofn0 K = true) : CN P w K mg base 4 "_law_made" G__law_made := by
  have M := mg_of X G s
  obtain ⟨fd, FD⟩ := def_at s (x := "_law_made") (i := 139) 97 rfl
  have hm := glo_at X G s z (x := "_law_made") (i := 139) 97 rfl
  exact cal__law_made M FD hm (kc__law_both X G s z) (kc__law_draw X G s z) (kc__law_pick X G s z) (kc__law_small X G s z)
theorem kc_are_right (X : K.In h) (G : h.Ns mainGlobals mg) (s : He.SaysD faL fnL K) (z : nofn0 K = true) : CF P w K mg base 5 "are_right" F_are_right := by
  have M := mg_of X G s
  obtain ⟨fd, FD⟩ := def_at s (x := "are_right") (i := 90) 50 rfl
  have hm := glo_at X G s z (x := "are_right") (i := 90) 50 rfl
  exact cal_are_right M FD hm (kc_place_of_term X G s z) (kc_power_sum X G s z)
theorem kc_is_list (X : K.In h) (G : h.Ns mainGlobals mg) (s : He.SaysD faL fnL K) (z : nofn0 K = true) : CF P w K mg base 1 "is_list" F_is_list := by
  have M := mg_of X G s
  obtain ⟨fd, FD⟩ := def_at s (x := "is_list") (i := 16) 3 rfl
  have hm := glo_at X G s z (x := "is_list") (i := 16) 3 rfl
  exact cal_is_list M FD hm 
theorem kc_found_terms (X : K.In h) (G : h.Ns mainGlobals mg) (s : He.SaysD faL fnL K) (z : nofn0 K = true) : CF P w K mg base 9 "found_terms" F_found_terms := by
  have M := mg_of X G s
  obtain ⟨fd, FD⟩ := def_at s (x := "found_terms") (i := 107) 66 rfl
  have hm := glo_at X G s z (x := "found_terms") (i := 107) 66 rfl
  exact cal_found_terms M FD hm (kc_are_right X G s z) (kc_found_of X G s z) (kc_is_list X G s z) (kc_is_product_value X G s z) (kc_want_section X G s z)
theorem kck_found_terms (X : K.In h) (G : h.Ns mainGlobals mg) (s : He.SaysD faL fnL K) (z : nofn0 K = true) : CalK P w K mg base 9 "found_terms" (spF K (RF K) F_found_terms) ["products", "t", "m", "product"] := by
  have M := mg_of X G s
  obtain ⟨fd, FD⟩ := def_at s (x := "found_terms") (i := 107) 66 rfl
  have hm := glo_at X G s z (x := "found_terms") (i := 107) 66 rfl
  exact calK_found_terms M FD hm (kc_are_right X G s z) (kc_found_of X G s z) (kc_is_list X G s z) (kc_is_product_value X G s z) (kc_want_section X G s z)
theorem kc__law_right (X : K.In h) (G : h.Ns mainGlobals mg) (s : He.SaysD faL fnL K) (z : nofn0 K = true) (ht : PySem.W.tabIn K "_law_chosen" = some (c, T)) (TB : LamX.TabB base mg c T) : CalG P w K mg base 11 "_law_right" (spNT K T G__law_right) := by
  have M := mg_of X G s
  obtain ⟨fd, FD⟩ := def_at s (x := "_law_right") (i := 148) 106 rfl
  have hm := glo_at X G s z (x := "_law_right") (i := 148) 106 rfl
  exact cal__law_right M FD hm (kc__law_draw X G s z) (kc__law_due X G s z) (kc__law_looked_right X G s z ht TB) (kc__law_made X G s z) (kc__law_product X G s z) (kc_found_terms X G s z) (kck_found_terms X G s z)
theorem kc__law_pot (X : K.In h) (G : h.Ns mainGlobals mg) (s : He.SaysD faL fnL K) (z : nofn0 K = true) : CO P w K mg base 1 "_law_pot" F__law_pot := by
  have M := mg_of X G s
  obtain ⟨fd, FD⟩ := def_at s (x := "_law_pot") (i := 111) 69 rfl
  have hm := glo_at X G s z (x := "_law_pot") (i := 111) 69 rfl
  exact cal__law_pot M FD hm 
theorem all_defs (X : K.In h) (G : h.Ns mainGlobals mg) (s : He.SaysD faL fnL K) (z : nofn0 K = true) (ht : PySem.W.tabIn K "_law_chosen" = some (c, T)) : ∃ fd, (∀ (s : Shared) (u : Value), BindsTo s fd ⟨[u], []⟩ [("_law_script", u)]) ∧ ∀ (base : Heap), LamX.TabB base mg c T → FnG P w K mg base 12 (He.ga K "law") fd ["_law_script"] (spLaw K T) := by
  obtain ⟨fd, FD⟩ := def_at s (x := "law") (i := 149) 107 rfl
  have b := FunD.bindsA (ps := ["_law_script"]) FD fun _ _ _ _ _ _ us hl => match us, hl with | [_], _ => rfl
  exact ⟨fd, fun s v => b s [v] rfl, fun base TB => fnG_law (mg_of X G s) FD (kc__law_pot X G s z) (kc__law_right X G s z ht TB)⟩
end
end Q7

-- part Fin
set_option Elab.async false
set_option linter.all false
set_option maxRecDepth 100000
set_option maxHeartbeats 0
/-! Fin: the law. -/
namespace Q7
open PySem PySem.W PySem.Calls PySem.Spec PyProof.Rows L2
theorem walk_law {q : Program} {lo : List Str} {XP : (Str → Option Value) → Heap → Prop} {d : DefRec} (hn : d.name = ("law" : Str)) (hdf : d.params.defaults = []) :
    PySem.W.WalkO q lo XP (fun _ h => SaysT h) PySem.Challenge.rw_etaparts_k78_whole_terms_found.row.toRowW d [] (fun f vs => PySem.call f vs) := by
  refine Att.attach_callB (l := PySem.Challenge.rw_etaparts_k78_whole_terms_found) (n := 63) rfl hdf fun w s₀ s₁ mg mb fa o pm cd doc a vs ns G Y ho hd hcd hmg hobj hints hlen hbits hg => ?_
  obtain ⟨K, c, T, KX, sd, z, ht, nT, C, hT⟩ := Y
  obtain ⟨fd, hb, hF⟩ := all_defs (P := (PySem.Challenge.rw_etaparts_k78_whole_terms_found).prog) (w := w) KX G.T.g sd z ht
  rw [hn] at hmg
  have e := hmg.symm.trans (glo_at KX G.T.g sd z (x := "law") (i := 149) 107 rfl)
  cases e
  exact law_callG KX G.T.g G.T.b G.T.builtins G.T.nolimit hg hT nT C G.T.bmain hobj hints (Nat.le_trans hlen (by decide)) ⟨rfl, by decide, by decide⟩ (fun base _ _ TB => hF base TB) hb fun H hH hS => ⟨a, ns, rfl, hH, hS, fun _ => rfl⟩
abbrev Rr : OpenRow := OpenLaw.row PySem.Challenge.rw_etaparts_k78_whole_terms_found
theorem look_a : chainsOk (view Rr.prog [149]) = true := by first | k_qdec | kernel_rfl
theorem look_b : opensWell Rr.prog = true := by first | k_qdec | kernel_rfl
theorem look_c : frees Rr.toRowW = true := by first | k_qdec | kernel_rfl
theorem look_d : Rr.within.isEmpty = true := by kernel_rfl
theorem look_all : (chainsOk (view Rr.prog [149]) && opensWell Rr.prog && (frees Rr.toRowW && Rr.within.isEmpty)) = true := by
  rw [look_a, look_b, look_c, look_d]
  rfl
end Q7
open PySem PySem.W PySem.Calls PyProof.Rows
theorem PySem.Challenge.cw_etaparts_k78_whole_terms_found_holds : PySem.Challenge.rw_etaparts_k78_whole_terms_found.Holds := by
  w_on; o_law
  refine HandSHeadRun.head_any (r := OpenLaw.row PySem.Challenge.rw_etaparts_k78_whole_terms_found) (q := view (OpenLaw.row PySem.Challenge.rw_etaparts_k78_whole_terms_found).prog [149]) (H := Q7.hookT) (ob := Q7.obT) (M := 20000) (loose := Q7.loose) (d := HandSHeadRun.topDef (OpenLaw.row PySem.Challenge.rw_etaparts_k78_whole_terms_found).prog 149) (kwd := []) Q7.obT_eq
    (by kernel_rfl) (fun s => by kernel_rfl) Q7.run_top (by kernel_rfl) (by kernel_rfl) (by kernel_rfl) (by rfl) (by first | assumption | decide +kernel) Q7.look_all ⟨rfl, rfl, rfl, rfl, rfl, by decide +kernel⟩ ?hw ?hc
  case hw => w_witness2
  case hc => exact Q7.walk_law (by kernel_rfl) (by kernel_rfl)
