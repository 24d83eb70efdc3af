import PyProof.Rows.All
import Wide.All
import OpenK.AllK
import Wide.FinOn
import KE.KStateDown
import HandS.ForMost
import HandS.More
import HandS.WordsExc
import HandS.Defaults
import HandS.HeadEnd
import HandS.HeadHook1
import HandS.HeadHook2
import HandS.HeadHook3
import HandS.HeadHook4
import PySem.Challenge.RW_ringstairs_k70_whole_levels_that_can_be
import HandS.Head0
import HandS.Head1
import HandS.Head2
import HandS.Head3
import HandS.Walk
import HandS.Zip
import HandS.IsInst
import HandS.Gcd
import HandS.Flow
import HandS.Style
import HandS.TupAny
import HandS.Star
import HandS.Wide
import HandS.AnyAll
import HandS.SortInts
import KE.KTupSum
import KE.GoesEnum
import KE.GoesZip
import KE.DataMinMax
import HandS.SortKw
import HandS.Small
import HandS.Strs
import HandS.SetBool
import KE.KEqDeep
import HandS.Nested
import HandS.NestedK
import HandS.IterVal
import KE.KDictZip
import HandS.Conv
import KE.SortData
import HandS.HeadWalk
set_option Elab.async false
set_option linter.all false
set_option maxRecDepth 100000
set_option maxHeartbeats 4000000
namespace K7
open PySem PySem.Spec PyProof.Rows L2
def top (i : Nat) : Stmt := PySem.Challenge.pw_ringstairs_k70_whole_levels_that_can_be.main.body.getD i (.Pass ⟨0, 0, 0, 0⟩)
abbrev s_is_whole : Stmt := top 10
abbrev s_is_integer : Stmt := top 11
abbrev s_is_within : Stmt := top 12
abbrev s_is_ring_in : Stmt := top 13
abbrev s_is_chain_in : Stmt := top 14
abbrev s_order_in : Stmt := top 15
abbrev s_is_tuple_in : Stmt := top 17
abbrev s_value_in_round : Stmt := top 19
abbrev s_letter_behind : Stmt := top 21
abbrev s_does_fall : Stmt := top 22
abbrev s_is_level : Stmt := top 27
abbrev s_is_levels_in : Stmt := top 28
abbrev s_distance_in : Stmt := top 29
abbrev s_level_sum : Stmt := top 30
abbrev s_missing_sum : Stmt := top 31
abbrev s_common_order : Stmt := top 32
abbrev s_let_rest : Stmt := top 33
abbrev s_levels_in : Stmt := top 34
abbrev s_heap_of_boxes : Stmt := top 35
abbrev s_core_in : Stmt := top 36
abbrev s_corner_rests : Stmt := top 37
abbrev s_without_rest : Stmt := top 38
abbrev s_letters_down : Stmt := top 39
abbrev s_class_in_levels : Stmt := top 40
abbrev s_require_levels : Stmt := top 41
abbrev s_require_even_chain : Stmt := top 42
abbrev s_require_levels_of : Stmt := top 43
abbrev s_distance : Stmt := top 44
abbrev s_can_be_met : Stmt := top 45
abbrev s_class_with_levels : Stmt := top 46
abbrev s_has_levels : Stmt := top 47
abbrev s_L_dice : Stmt := top 49
abbrev s_L_roll : Stmt := top 50
abbrev s_L_one_of : Stmt := top 51
abbrev s_L_common : Stmt := top 52
abbrev s_L_order : Stmt := top 53
abbrev s_L_ring_of : Stmt := top 54
abbrev s_L_equal_chain : Stmt := top 55
abbrev s_L_tuple : Stmt := top 56
abbrev s_L_map : Stmt := top 57
abbrev s_L_levels : Stmt := top 58
abbrev s_L_distance : Stmt := top 59
abbrev s_L_all_tuples : Stmt := top 60
abbrev s_L_drawn_levels : Stmt := top 61
abbrev s_L_met_right : Stmt := top 62
abbrev s_L_all_right : Stmt := top 63
abbrev s_law : Stmt := top 64
abbrev FnP (K : PySem.W.Frag) (x : Str) (st : Stmt) (f : Addr) (fd : FuncData) : Prop := FunD K x x (defArgs st) (defBody st) (defScope st) [] [] f fd
def dOf (x : Str) (st : Stmt) : He.DefD := ⟨(x, none), x, x, defArgs st, defBody st, defScope st, [], []⟩
def fn : List He.DefD := [dOf "is_whole" s_is_whole, dOf "is_integer" s_is_integer, dOf "is_within" s_is_within, dOf "is_ring_in" s_is_ring_in, dOf "is_chain_in" s_is_chain_in, dOf "order_in" s_order_in, dOf "is_tuple_in" s_is_tuple_in, dOf "value_in_round" s_value_in_round, dOf "letter_behind" s_letter_behind, dOf "does_fall" s_does_fall, dOf "is_level" s_is_level, dOf "is_levels_in" s_is_levels_in, dOf "distance_in" s_distance_in, dOf "level_sum" s_level_sum, dOf "missing_sum" s_missing_sum, dOf "common_order" s_common_order, dOf "let_rest" s_let_rest, dOf "levels_in" s_levels_in, dOf "heap_of_boxes" s_heap_of_boxes, dOf "core_in" s_core_in, dOf "corner_rests" s_corner_rests, dOf "without_rest" s_without_rest, dOf "letters_down" s_letters_down, dOf "class_in_levels" s_class_in_levels, dOf "require_levels" s_require_levels, dOf "require_even_chain" s_require_even_chain, dOf "require_levels_of" s_require_levels_of, dOf "distance" s_distance, dOf "can_be_met" s_can_be_met, dOf "class_with_levels" s_class_with_levels, dOf "has_levels" s_has_levels, dOf "_law_dice" s_L_dice, dOf "_law_roll" s_L_roll, dOf "_law_one_of" s_L_one_of, dOf "_law_common" s_L_common, dOf "_law_order" s_L_order, dOf "_law_ring_of" s_L_ring_of, dOf "_law_equal_chain" s_L_equal_chain, dOf "_law_tuple" s_L_tuple, dOf "_law_map" s_L_map, dOf "_law_levels" s_L_levels, dOf "_law_distance" s_L_distance, dOf "_law_all_tuples" s_L_all_tuples, dOf "_law_drawn_levels" s_L_drawn_levels, dOf "_law_met_right" s_L_met_right, dOf "_law_all_right" s_L_all_right, dOf "law" s_law]
def fa1 : List He.Fa := [.glo "is_whole", .glo "is_integer", .glo "is_within", .glo "is_ring_in", .glo "is_chain_in", .glo "order_in", .glo "is_tuple_in", .glo "value_in_round", .glo "letter_behind", .glo "does_fall", .glo "is_level", .glo "is_levels_in", .glo "distance_in", .glo "level_sum", .glo "missing_sum", .glo "common_order", .glo "let_rest", .glo "levels_in", .glo "heap_of_boxes", .glo "core_in", .glo "corner_rests", .glo "without_rest", .glo "letters_down", .glo "class_in_levels", .glo "require_levels", .glo "require_even_chain", .glo "require_levels_of", .glo "distance", .glo "can_be_met", .glo "class_with_levels", .glo "has_levels", .glo "_law_dice", .glo "_law_roll", .glo "_law_one_of", .glo "_law_common", .glo "_law_order", .glo "_law_ring_of", .glo "_law_equal_chain", .glo "_law_tuple", .glo "_law_map", .glo "_law_levels", .glo "_law_distance", .glo "_law_all_tuples", .glo "_law_drawn_levels", .glo "_law_met_right", .glo "_law_all_right", .glo "law"]
def fa2 : List He.Fa := [.free "isinstance", .free "int", .free "bool", .free "tuple", .free "abs", .free "len", .free "all", .free "zip", .free "list", .free "sum", .free "max", .free "min", .free "enumerate", .free "range", .free "next", .free "sorted", .free "dict"]
def fa3 : List He.Fa := [.int "MOST_RINGS" 12, .int "MOST_PLACES" 60, .int "SIXTY_DIGITS" (10 ^ 60), .int "LEAST_LEVELS" 2, .int "MOST_LEVELS" 60, .int "FIFTY_DIGITS" (10 ^ 50)]
def fa : List He.Fa := fa1 ++ (fa2 ++ fa3)
def ex (K : PySem.W.Frag) : Bool := decide (PySem.W.nsIn K mainGlobals "gcd" = some (some (.builtin "math.gcd")))
def tf : List He.Defn := [("let_rest", none)]
def loose1 : List Str := ["RingError", "InvalidChain", "InvalidOperation", "InvalidNumber", "MOST_RINGS", "MOST_PLACES", "SIXTY_DIGITS", "is_whole", "is_integer", "is_within", "is_ring_in", "is_chain_in", "order_in", "is_tuple_in", "value_in_round", "letter_behind", "does_fall", "LEAST_LEVELS", "MOST_LEVELS", "FIFTY_DIGITS", "is_level", "is_levels_in", "distance_in", "level_sum", "missing_sum", "common_order", "let_rest", "levels_in", "heap_of_boxes", "core_in"]
def loose2 : List Str := ["corner_rests", "without_rest", "letters_down", "class_in_levels", "require_levels", "require_even_chain", "require_levels_of", "distance", "can_be_met", "class_with_levels", "has_levels", "_law_dice", "_law_roll", "_law_one_of", "_law_common", "_law_order", "_law_ring_of", "_law_equal_chain", "_law_tuple", "_law_map", "_law_levels", "_law_distance", "_law_all_tuples", "_law_drawn_levels", "_law_met_right", "_law_all_right"]
end K7

set_option Elab.async false
set_option linter.all false
set_option maxRecDepth 100000
set_option maxHeartbeats 0
namespace K7
open PySem PySem.Spec PyProof.Rows L2
abbrev hdR : PySem.W.OpenRow := PySem.W.OpenLaw.row PySem.Challenge.rw_ringstairs_k70_whole_levels_that_can_be
abbrev hdK : PySem.W.Hook := He.hookX 4 fa fn [] tf ex
def hdOb (s : PySem.W.SharedT) : He.AlX := He.obsX 4 fa fn [] tf ex (HandSHeadRun.getT s)
theorem hdOb_eq (s : PySem.W.SharedT) : hdOb s = hdK.obs s.abs := He.obsX_eq (HandSHeadRun.getT_eq s)
theorem hdRun (w : World) : HandSHeadRun.RunEqI hdR (PySem.W.view hdR.prog [0, 64]) hdK hdOb 8000 (loose1 ++ loose2) w := by
  unfold HandSHeadRun.RunEqI
  kernel_rfl
end K7

set_option Elab.async false
set_option linter.all false
set_option maxRecDepth 100000
set_option maxHeartbeats 4000000
/-! heaps that grow, data on them, the defs of the text, calls, the dice. -/
namespace K7
open PySem PySem.Spec PyProof.Rows L2

/-! ### heaps that grow: all but code tables stands, code tables grow -/
def Ex (H H' : Hp) : Prop := ∀ a o, H a = some o → ((∀ ps, o ≠ .tbl ps) → H' a = some o) ∧ ∀ ps, o = .tbl ps → ∃ ps', H' a = some (.tbl ps') ∧ (TriplesOk ps.toList → TriplesOk ps'.toList)
theorem Ex.refl (H : Hp) : Ex H H := fun _ o h => ⟨fun _ => h, fun ps e => ⟨ps, by rw [h, e], id⟩⟩
theorem Ex.trans {H H1 H2 : Hp} (a : Ex H H1) (b : Ex H1 H2) : Ex H H2 := fun x o h => ⟨fun n => (b x o ((a x o h).1 n)).1 n, fun ps e => by
  obtain ⟨ps1, e1, t1⟩ := (a x o h).2 ps e
  obtain ⟨ps2, e2, t2⟩ := (b x _ e1).2 ps1 rfl
  exact ⟨ps2, e2, fun t => t2 (t1 t)⟩⟩
theorem Ex.new {H : Hp} {p : Addr} {o : HO} (h : H p = none) : Ex H (upd H p o) := fun a u e => by
  have q : upd H p o a = some u := by
    rw [upd_ne (ne_of_none e h)]
    exact e
  exact ⟨fun _ => q, fun ps z => ⟨ps, by rw [q, z], id⟩⟩
theorem fresh_back {H H' : Hp} {p : Addr} (e : Ex H H') (h : H' p = none) : H p = none := by
  cases h1 : H p with
  | none => rfl
  | some o =>
    by_cases hz : ∃ ps, o = .tbl ps
    · obtain ⟨ps, rfl⟩ := hz
      obtain ⟨ps', e1, _⟩ := (e p _ h1).2 ps rfl
      rw [h] at e1
      cases e1
    · have e1 := (e p _ h1).1 fun ps q => hz ⟨ps, q⟩
      rw [h] at e1
      cases e1
/-- an object that H does not know may change -/
theorem Ex.mut {H H' : Hp} {p : Addr} {o : HO} (e : Ex H H') (h : H p = none) : Ex H (upd H' p o) := fun a u ha => by
  have n : a ≠ p := ne_of_none ha h
  rw [upd_ne n]
  exact e a u ha
theorem Ex.tup {H H' : Hp} {p : Addr} {xs : List V} (e : Ex H H') (h : H p = some (.tup xs)) : H' p = some (.tup xs) := (e p _ h).1 fun _ z => nomatch z
theorem Ex.lst {H H' : Hp} {p : Addr} {xs : List V} (e : Ex H H') (h : H p = some (.lst xs)) : H' p = some (.lst xs) := (e p _ h).1 fun _ z => nomatch z
theorem Ex.dK {H H' : Hp} {p : Addr} {xs : List (Key × V)} (e : Ex H H') (h : H p = some (.dK xs)) : H' p = some (.dK xs) := (e p _ h).1 fun _ z => nomatch z
theorem Ex.dT {H H' : Hp} {p : Addr} {xs : List (List Key × V)} (e : Ex H H') (h : H p = some (.dT xs)) : H' p = some (.dT xs) := (e p _ h).1 fun _ z => nomatch z
theorem Ex.ext {H H' : Hp} {p : Addr} {φ : Heap → Prop} (e : Ex H H') (h : H p = some (.ext φ)) : H' p = some (.ext φ) := (e p _ h).1 fun _ z => nomatch z
theorem Ex.frz {H H' : Hp} {p : Addr} {o : Obj} {u : HO} (e : Ex H H') (h : H p = some (.frz o u)) : H' p = some (.frz o u) := (e p _ h).1 fun _ z => nomatch z
theorem Ex.seq {K : PySem.W.Frag} {H H' : Hp} {a : Addr} {xs : List V} (e : Ex H H') (h : SqL K H a xs) : SqL K H' a xs := by
  rcases h with (h | ⟨o, h⟩) | h
  · exact .inl (.inl (e.lst h))
  · exact .inl (.inr ⟨o, e.frz h⟩)
  · exact .inr h
theorem Ex.tab {H H' : Hp} {p : Addr} (e : Ex H H') (h : GxR.TabG H p) : GxR.TabG H' p := by
  obtain ⟨ps, h1, h2⟩ := h
  obtain ⟨ps', e1, e2⟩ := (e p _ h1).2 ps rfl
  exact ⟨ps', e1, e2 h2⟩
theorem ne_new {H : Hp} {p q : Addr} {o : HO} (h : H p = some o) (hq : H q = none) : p ≠ q := ne_of_none h hq

/-! ### data on a heap -/
def IsT (H : Hp) (v : V) (xs : List V) : Prop := ∃ p, v = .ref p ∧ H p = some (.tup xs)
def IsL (H : Hp) (v : V) (xs : List V) : Prop := ∃ p, v = .ref p ∧ H p = some (.lst xs)
abbrev iv (ns : List Int) : List V := ns.map V.int
theorem IsT.mono {H H' : Hp} {v : V} {xs : List V} (e : Ex H H') (h : IsT H v xs) : IsT H' v xs := by
  obtain ⟨p, a, b⟩ := h
  exact ⟨p, a, e.tup b⟩
theorem IsL.mono {H H' : Hp} {v : V} {xs : List V} (e : Ex H H') (h : IsL H v xs) : IsL H' v xs := by
  obtain ⟨p, a, b⟩ := h
  exact ⟨p, a, e.lst b⟩
/-- one for one -/
def Each {α : Type} (R : V → α → Prop) (xs : List V) (ds : List α) : Prop := xs.length = ds.length ∧ ∀ (i : Nat) (x : V) (d : α), xs[i]? = some x → ds[i]? = some d → R x d
theorem Each.nil {α : Type} {R : V → α → Prop} : Each R [] [] := ⟨rfl, fun i x d h => by simp at h⟩
theorem Each.mono {α : Type} {R R' : V → α → Prop} {xs : List V} {ds : List α} (h : Each R xs ds) (f : ∀ x d, R x d → R' x d) : Each R' xs ds := ⟨h.1, fun i x d a b => f x d (h.2 i x d a b)⟩
theorem Each.snoc {α : Type} {R : V → α → Prop} {xs : List V} {ds : List α} {x : V} {d : α} (h : Each R xs ds) (r : R x d) : Each R (xs ++ [x]) (ds ++ [d]) := by
  refine ⟨by rw [List.length_append, List.length_append, h.1]; rfl, fun i y e a b => ?_⟩
  by_cases hi : i < xs.length
  · rw [List.getElem?_append_left hi] at a
    rw [List.getElem?_append_left (by rw [← h.1]; exact hi)] at b
    exact h.2 i y e a b
  · have hi' : xs.length ≤ i := Nat.le_of_not_lt hi
    rw [List.getElem?_append_right hi'] at a
    rw [List.getElem?_append_right (by rw [← h.1]; exact hi'), ← h.1] at b
    obtain ⟨hj, ea⟩ := List.getElem?_eq_some_iff.mp a
    obtain ⟨hk, eb⟩ := List.getElem?_eq_some_iff.mp b
    simp at ea eb
    rw [← ea, ← eb]
    exact r
theorem Each.cons {α : Type} {R : V → α → Prop} {xs : List V} {ds : List α} {x : V} {d : α} (r : R x d) (h : Each R xs ds) : Each R (x :: xs) (d :: ds) := by
  refine ⟨by rw [List.length_cons, List.length_cons, h.1], fun i y e a b => ?_⟩
  cases i with
  | zero =>
    cases a
    cases b
    exact r
  | succ i => exact h.2 i y e a b
theorem Each.at {α : Type} {R : V → α → Prop} {xs : List V} {ds : List α} (h : Each R xs ds) {i : Nat} {d : α} (e : ds[i]? = some d) : ∃ x, xs[i]? = some x ∧ R x d := by
  have hi : i < xs.length := by rw [h.1]; exact (List.getElem?_eq_some_iff.mp e).1
  exact ⟨xs[i], List.getElem?_eq_getElem hi, h.2 i _ d (List.getElem?_eq_getElem hi) e⟩
theorem Each.at' {α : Type} {R : V → α → Prop} {xs : List V} {ds : List α} (h : Each R xs ds) {i : Nat} {x : V} (e : xs[i]? = some x) : ∃ d, ds[i]? = some d ∧ R x d := by
  have hi : i < ds.length := by rw [← h.1]; exact (List.getElem?_eq_some_iff.mp e).1
  exact ⟨ds[i], List.getElem?_eq_getElem hi, h.2 i x _ e (List.getElem?_eq_getElem hi)⟩
/-- a ring, a chain -/
abbrev Rg := Int × Int
def IsR (H : Hp) (v : V) (r : Rg) : Prop := IsT H v [.int r.1, .int r.2]
def IsC (H : Hp) (v : V) (rs : List Rg) : Prop := ∃ xs, IsT H v xs ∧ Each (IsR H) xs rs
theorem IsC.mono {H H' : Hp} {v : V} {rs : List Rg} (e : Ex H H') (h : IsC H v rs) : IsC H' v rs := by
  obtain ⟨xs, a, b⟩ := h
  exact ⟨xs, a.mono e, b.mono fun _ _ r => IsT.mono e r⟩
theorem iv_at {ns : List Int} {i : Nat} {x : V} (h : (iv ns)[i]? = some x) : ∃ n, ns[i]? = some n ∧ x = .int n := by
  rw [List.getElem?_map] at h
  cases e : ns[i]? with
  | none =>
    rw [e] at h
    cases h
  | some n =>
    rw [e] at h
    exact ⟨n, rfl, (Option.some.inj h).symm⟩
theorem at_iv {ns : List Int} {i : Nat} {n : Int} (h : ns[i]? = some n) : (iv ns)[i]? = some (.int n) := by
  rw [List.getElem?_map, h]
  rfl
theorem iv_len (ns : List Int) : (iv ns).length = ns.length := List.length_map _
theorem sz (n : Nat) (h : n ≤ 100000) : n ≤ sizeLine := Nat.le_trans h (by decide)
theorem szl (n : Nat) (h : n < 100000) : n < sizeLine := Nat.lt_of_lt_of_le h (by decide)

/-! ### promises: what comes back -/
def Ret (R : V → Hp → Prop) (H : Hp) (Q : VK) : Prop := ∀ v H', Ex H H' → R v H' → Q v H'
abbrev RetV (v : V) (H : Hp) (Q : VK) : Prop := Ret (fun u _ => u = v) H Q
theorem Ret.go {R : V → Hp → Prop} {H H' H2 : Hp} {Q : VK} {v : V} (h : Ret R H Q) (e : Ex H H2) (r : R v H2) : Q v H2 := h v H2 e r

/-! ### the text's defs, as they stand -/
structure Top (K : PySem.W.Frag) (mg : Str → Option Value) : Prop where
  fns : ∀ (i : Nat) (d : He.DefD), fn[i]? = some d → ∃ fd, FunD K d.name d.qual d.params d.body d.scope (d.dvs K) (d.kws K) (He.fAd K d.at_) fd
  glo : ∀ (i : Nat) (x : Str), fa1[i]? = some (.glo x) → mg x = some (.ref (He.ga K x))
  fre : ∀ (i : Nat) (x : Str), fa2[i]? = some (.free x) → mg x = none
  nums : ∀ (i : Nat) (x : Str) (n : Int), fa3[i]? = some (.int x n) → ∃ t, mg x = some (.int n t)
  gcd : mg "gcd" = some (.builtin "math.gcd")
section
variable {P : Program} {w : World} {K : PySem.W.Frag} {mg : Str → Option Value} {base : Heap}
theorem Top.fn (T : Top K mg) (i : Nat) {x : Str} {st : Stmt} (h : fn[i]? = some (dOf x st)) (g : fa1[i]? = some (.glo x)) : ∃ f fd, FnP K x st f fd ∧ mg x = some (.ref f) := by
  obtain ⟨fd, F⟩ := T.fns i _ h
  exact ⟨_, fd, F, T.glo i x g⟩
/-- a def that keeps its promise, under its name -/
def Has (P : Program) (w : World) (K : PySem.W.Frag) (mg : Str → Option Value) (base : Heap) (x : Str) (k : Nat) (ps : List Str) (sp : Sp) : Prop :=
  ∃ f fd, mg x = some (.ref f) ∧ PySem.W.keepIn K (.ref f) = true ∧ Binds K fd ps [] ∧ FnOk P w K mg base CX0 k f fd ps sp
theorem Has.mono {x : Str} {j k : Nat} {ps : List Str} {sp : Sp} (h : Has P w K mg base x j ps sp) (l : j ≤ k) : Has P w K mg base x k ps sp := by
  obtain ⟨f, fd, a, b, c, d⟩ := h
  exact ⟨f, fd, a, b, c, d.mono l⟩
theorem has_mk (T : Top K mg) (i : Nat) {x : Str} {st : Stmt} {N ps : List Str} {k : Nat} {sp : Sp} (h : fn[i]? = some (dOf x st)) (g : fa1[i]? = some (.glo x)) (S : FnScope N ps (defScope st))
    (hb : ∀ (kV doc pm : Value) (an : Option Addr) (cdv ct : Value) (us : List Value), us.length = ps.length → bindArgs (PySem.W.fnOf x x (defArgs st) (defBody st) (defScope st) .none kV doc pm an cdv ct) ⟨us, []⟩ = pure (ps.zip us))
    (len : ∀ vs H Q E, sp vs H Q E → vs.length = ps.length)
    (hbody : ∀ (f : Addr) (cdv : Value) (A : Around) (outer : List Env) (s : Shared) (H : Hp) (vs : List V) (Q : VK) (E : XK), Room k (A.deeper (envOfC x (defScope st) s.heap.objs.size f cdv)) → sp vs H Q E →
      ∃ t, PSs (cxOf CX0 P w K mg base N x (defScope st) f cdv A outer s H E).nox (defBody st) t ∧ t { nx := fun _ H' => Q .non H', rt := Q } (start N vs) H) : Has P w K mg base x (k + 1) ps sp := by
  obtain ⟨f, fd, F, m⟩ := T.fn i h g
  refine ⟨f, fd, m, F.kp, F.bindsN hb, F.ok S len fun cdv A outer s H vs Q E hr hs => ?_⟩
  obtain ⟨t, p, q⟩ := hbody f cdv A outer s H vs Q E hr hs
  exact ⟨t, p.nox, q⟩
end
section
variable {X : Cx} {x : Str} {p pos : Pos} {e : Expr} {es : List Expr} {t : TA} {k : Nat} {ps : List Str} {sp : Sp}
theorem pe_has (h : Has X.prog X.w X.K X.mg X.base x k ps sp) (hr : Room k X.A) (ha : PA X (e :: es) t) (hg : Gl X x := by rfl) (hdb : (x == ("__debug__" : Str)) = false := by decide) (he : starEach (e :: es) X.env = (false, eval e X.env) :: starEach es X.env := by rfl) (hpl : (backTo pos (starEach es X.env)).any (·.1) = false := by rfl) :
    PE X (.Call (.Name x p) (e :: es) [] pos) (tCall sp [] E0 t) := by
  obtain ⟨f, fd, m, kp, b, F⟩ := h
  exact pe_call F hr hg m kp b .nil pass0 ha hdb he hpl
theorem pe_gi {n : Int} (h : ∃ t, X.mg x = some (.int n t)) (hg : Gl X x := by rfl) (hd : (x == ("__debug__" : Str)) = false := by decide) : PE X (.Name x pos) (tC (.int n)) := by
  obtain ⟨t, m⟩ := h
  exact pe_glob hg m ⟨t, rfl⟩ hd
end

/-! ### the dice: a list of three numbers from 0 on, whichever -/
def phiD (d : Addr) : Heap → Prop := fun h => ∃ (x y z : Int) (its : List Value) (n : Nat), 0 ≤ x ∧ 0 ≤ y ∧ 0 ≤ z ∧ Vals [.int x, .int y, .int z] its ∧ h.get? d = some { cls := .type "list", data := .seq its.toArray n }
def Dice (H : Hp) (v : V) : Prop := ∃ d, v = .ref d ∧ H d = some (.ext (phiD d))
theorem Dice.mono {H H' : Hp} {v : V} (e : Ex H H') (h : Dice H v) : Dice H' v := by
  obtain ⟨d, a, b⟩ := h
  exact ⟨d, a, e.ext b⟩
section
variable {P : Program} {w : World} {K : PySem.W.Frag} {mg : Str → Option Value} {base : Heap}
theorem phiD_stay (d : Addr) : ∀ h1 h2 : Heap, phiD d h1 → (∀ o, h1.get? d = some o → h2.get? d = some o) → phiD d h2 := by
  rintro h1 h2 ⟨x, y, z, its, n, a, b, c, r, e⟩ k
  exact ⟨x, y, z, its, n, a, b, c, r, k _ e⟩
/-- the object at d, told otherwise -/
theorem hok_re {H : Hp} {h : Heap} {d : Addr} {o u : HO} (ok : HOk P w H h) (e : H d = some o) (n1 : ∀ a, o ≠ .own a) (n2 : ∀ xs, o ≠ .tup xs) (new : ObjOk P w (upd H d u) h d u) : HOk P w (upd H d u) h := fun b v q => by
  by_cases hb : b = d
  · subst hb
    rw [upd_same] at q
    cases q
    exact new
  · rw [upd_ne hb] at q
    refine (ok b v q).stay (fun _ _ _ z => z) (fun c z => ?_) fun c xs z => ?_
    · have nc : c ≠ d := fun t => by
        rw [t, e] at z
        exact n1 _ (Option.some.inj z)
      rw [upd_ne nc]
      exact z
    · have nc : c ≠ d := fun t => by
        rw [t, e] at z
        exact n2 _ (Option.some.inj z)
      rw [upd_ne nc]
      exact z
theorem dice_open {H : Hp} {h : Heap} {d : Addr} (ok : HOk P w H h) (e : H d = some (.ext (phiD d))) : ∃ x y z : Int, 0 ≤ x ∧ 0 ≤ y ∧ 0 ≤ z ∧ HOk P w (upd H d (.lst [.int x, .int y, .int z])) h := by
  obtain ⟨⟨x, y, z, its, n, a, b, c, r, g⟩, _, _⟩ := ok d _ e
  exact ⟨x, y, z, a, b, c, hok_re ok e (fun _ q => nomatch q) (fun _ q => nomatch q) ⟨by show 3 ≤ sizeLine; decide, its, n, r, g⟩⟩
theorem dice_close {H : Hp} {h : Heap} {d : Addr} {x y z : Int} (ok : HOk P w H h) (e : H d = some (.lst [.int x, .int y, .int z])) (a : 0 ≤ x) (b : 0 ≤ y) (c : 0 ≤ z) : HOk P w (upd H d (.ext (phiD d))) h := by
  obtain ⟨_, its, n, r, g⟩ := ok d _ e
  exact hok_re ok e (fun _ q => nomatch q) (fun _ q => nomatch q) ⟨⟨x, y, z, its, n, a, b, c, r, g⟩, ⟨_, g⟩, phiD_stay d⟩
/-- a promise over the dice as a list, told of the dice as they are -/
theorem Has.dice {x : Str} {k : Nat} {ps : List Str} {sp sp' : Sp} (F : Has P w K mg base x k ps sp') (len : ∀ vs H Q E, sp vs H Q E → vs.length = ps.length)
    (h : ∀ vs H Q E, sp vs H Q E → ∃ d, H d = some (.ext (phiD d)) ∧ ∀ x y z : Int, 0 ≤ x → 0 ≤ y → 0 ≤ z →
      sp' vs (upd H d (.lst [.int x, .int y, .int z])) (fun v H' => ∃ x y z : Int, 0 ≤ x ∧ 0 ≤ y ∧ 0 ≤ z ∧ H' d = some (.lst [.int x, .int y, .int z]) ∧ Q v (upd H' d (.ext (phiD d)))) E) : Has P w K mg base x k ps sp := by
  obtain ⟨f, fd, m, kp, b, G⟩ := F
  refine ⟨f, fd, m, kp, b, len, fun A outer s H args us vs Q E hr e0 hb hv hs => ?_⟩
  obtain ⟨d, hd, q⟩ := h vs H Q E hs
  obtain ⟨x, y, z, hx, hy, hz, ok⟩ := dice_open e0.hok hd
  have nd : ∀ b, H b = none → b ≠ d := fun b e t => by
    rw [t, hd] at e
    cases e
  have e1 : Env0 P w K mg base A outer s (upd H d (.lst [.int x, .int y, .int z])) :=
    ⟨e0.frames, e0.mod, fun b o e => ⟨(e0.bs b o e).1, by rw [upd_ne (nd b (e0.bs b o e).2)]; exact (e0.bs b o e).2⟩, e0.bsz, e0.funs, fun b hb => by rw [upd_ne (nd b (e0.frf b hb))]; exact e0.frf b hb, ok, e0.bare⟩
  refine codeAny_mono (G.run A outer s _ args us vs _ E hr e1 hb hv (q x y z hx hy hz)) fun r s' hq => ?_
  cases r with
  | error e => exact hq
  | ok fl =>
    cases fl with
    | next => exact hq
    | brk => exact hq
    | cont => exact hq
    | ret u =>
      obtain ⟨v, H', os, bare, un, hok', rv, x', y', z', a1, a2, a3, hd', qv⟩ := hq
      refine ⟨v, upd H' d (.ext (phiD d)), os, bare, ?_, dice_close hok' hd' a1 a2 a3, rv, qv⟩
      have at_ : ∀ b, b ≠ d → upd H d (.lst [.int x, .int y, .int z]) b = H b := fun b h1 => upd_ne h1
      refine ⟨fun b o e n hf he => un.keep b o e (by rw [at_ b (nd b n)]; exact n) hf he, fun b o e n hf he => un.slot b o e (by rw [at_ b (nd b n)]; exact n) hf he,
        fun b o e n he => by rw [upd_ne (nd b n)]; exact un.free b o e (by rw [at_ b (nd b n)]; exact n) he, un.there, fun b xs e => ?_, fun b o u e => ?_, fun b ps e => ?_⟩
      · have nb : b ≠ d := fun t => by
          rw [t, hd] at e
          cases e
        rw [upd_ne nb]
        exact un.tups b xs (by rw [at_ b nb]; exact e)
      · have nb : b ≠ d := fun t => by
          rw [t, hd] at e
          cases e
        rw [upd_ne nb]
        exact un.frzs b o u (by rw [at_ b nb]; exact e)
      · have nb : b ≠ d := fun t => by
          rw [t, hd] at e
          cases e
        rw [upd_ne nb]
        exact un.tbls b ps (by rw [at_ b nb]; exact e)
/-- the dice that a def makes -/
theorem Has.diceNew {x : Str} {k : Nat} {ps : List Str} {sp sp' : Sp} (F : Has P w K mg base x k ps sp') (len : ∀ vs H Q E, sp vs H Q E → vs.length = ps.length)
    (h : ∀ vs H Q E, sp vs H Q E → sp' vs H (fun v H' => ∃ (d : Addr) (x y z : Int), H d = none ∧ 0 ≤ x ∧ 0 ≤ y ∧ 0 ≤ z ∧ H' d = some (.lst [.int x, .int y, .int z]) ∧ Q v (upd H' d (.ext (phiD d)))) E) : Has P w K mg base x k ps sp := by
  obtain ⟨f, fd, m, kp, b, G⟩ := F
  refine ⟨f, fd, m, kp, b, len, fun A outer s H args us vs Q E hr e0 hb hv hs => ?_⟩
  refine codeAny_mono (G.run A outer s _ args us vs _ E hr e0 hb hv (h vs H Q E hs)) fun r s' hq => ?_
  cases r with
  | error e => exact hq
  | ok fl =>
    cases fl with
    | next => exact hq
    | brk => exact hq
    | cont => exact hq
    | ret u =>
      obtain ⟨v, H', os, bare, un, hok', rv, d, x', y', z', hd, a1, a2, a3, hd', qv⟩ := hq
      refine ⟨v, upd H' d (.ext (phiD d)), os, bare, ?_, dice_close hok' hd' a1 a2 a3, rv, qv⟩
      refine ⟨un.keep, un.slot, fun b o e n he => ?_, un.there, fun b xs e => ?_, fun b o u e => ?_, fun b ps e => ?_⟩
      · have z := un.free b o e n he
        have nb : b ≠ d := fun t => by
          rw [t, hd'] at z
          cases z
        rw [upd_ne nb]
        exact z
      · rw [upd_ne (ne_of_none e hd)]
        exact un.tups b xs e
      · rw [upd_ne (ne_of_none e hd)]
        exact un.frzs b o u e
      · rw [upd_ne (ne_of_none e hd)]
        exact un.tbls b ps e
end
section
variable {K : PySem.W.Frag} {mg : Str → Option Value}
theorem Top.m_isinstance (T : Top K mg) : mg "isinstance" = none := T.fre 0 _ rfl
theorem Top.m_int (T : Top K mg) : mg "int" = none := T.fre 1 _ rfl
theorem Top.m_bool (T : Top K mg) : mg "bool" = none := T.fre 2 _ rfl
theorem Top.m_tuple (T : Top K mg) : mg "tuple" = none := T.fre 3 _ rfl
theorem Top.m_abs (T : Top K mg) : mg "abs" = none := T.fre 4 _ rfl
theorem Top.m_len (T : Top K mg) : mg "len" = none := T.fre 5 _ rfl
theorem Top.m_all (T : Top K mg) : mg "all" = none := T.fre 6 _ rfl
theorem Top.m_zip (T : Top K mg) : mg "zip" = none := T.fre 7 _ rfl
theorem Top.m_list (T : Top K mg) : mg "list" = none := T.fre 8 _ rfl
theorem Top.m_sum (T : Top K mg) : mg "sum" = none := T.fre 9 _ rfl
theorem Top.m_max (T : Top K mg) : mg "max" = none := T.fre 10 _ rfl
theorem Top.m_min (T : Top K mg) : mg "min" = none := T.fre 11 _ rfl
theorem Top.m_enumerate (T : Top K mg) : mg "enumerate" = none := T.fre 12 _ rfl
theorem Top.m_range (T : Top K mg) : mg "range" = none := T.fre 13 _ rfl
theorem Top.m_next (T : Top K mg) : mg "next" = none := T.fre 14 _ rfl
theorem Top.m_sorted (T : Top K mg) : mg "sorted" = none := T.fre 15 _ rfl
theorem Top.m_dict (T : Top K mg) : mg "dict" = none := T.fre 16 _ rfl
theorem Top.k_MOST_RINGS (T : Top K mg) : ∃ t, mg "MOST_RINGS" = some (.int 12 t) := T.nums 0 _ _ rfl
theorem Top.k_MOST_PLACES (T : Top K mg) : ∃ t, mg "MOST_PLACES" = some (.int 60 t) := T.nums 1 _ _ rfl
theorem Top.k_SIXTY_DIGITS (T : Top K mg) : ∃ t, mg "SIXTY_DIGITS" = some (.int (10 ^ 60) t) := T.nums 2 _ _ rfl
theorem Top.k_LEAST_LEVELS (T : Top K mg) : ∃ t, mg "LEAST_LEVELS" = some (.int 2 t) := T.nums 3 _ _ rfl
theorem Top.k_MOST_LEVELS (T : Top K mg) : ∃ t, mg "MOST_LEVELS" = some (.int 60 t) := T.nums 4 _ _ rfl
theorem Top.k_FIFTY_DIGITS (T : Top K mg) : ∃ t, mg "FIFTY_DIGITS" = some (.int (10 ^ 50) t) := T.nums 5 _ _ rfl
end
end K7

set_option Elab.async false
set_option linter.all false
set_option maxRecDepth 100000
set_option maxHeartbeats 4000000
/-! comprehensions and loops over anything that is walked, told by data. -/
namespace K7
open PySem PySem.Spec PyProof.Rows L2
theorem each_int {xs : List V} {ns : List Int} (h : Each (fun v d => v = V.int d) xs ns) : xs = iv ns := by
  refine List.ext_getElem? fun i => ?_
  cases e : xs[i]? with
  | none =>
    rw [List.getElem?_map, List.getElem?_eq_none (by rw [← h.1]; exact List.getElem?_eq_none_iff.mp e)]
    rfl
  | some x =>
    obtain ⟨d, hd, rfl⟩ := h.at' e
    rw [at_iv hd]
theorem each_bl {xs : List V} {bs : List Bool} (h : Each (fun v d => v = V.bl d) xs bs) : xs = bs.map V.bl := by
  refine List.ext_getElem? fun i => ?_
  cases e : xs[i]? with
  | none =>
    rw [List.getElem?_map, List.getElem?_eq_none (by rw [← h.1]; exact List.getElem?_eq_none_iff.mp e)]
    rfl
  | some x =>
    obtain ⟨d, hd, rfl⟩ := h.at' e
    rw [List.getElem?_map, hd]
    rfl
/-- all tuples stand -/
def TEx (H H' : Hp) : Prop := ∀ p xs, H p = some (.tup xs) → H' p = some (.tup xs)
theorem Ex.t {H H' : Hp} (e : Ex H H') : TEx H H' := fun _ _ h => e.tup h
theorem TEx.lst {H : Hp} {D : Addr} {xs : List V} {o : HO} (h : H D = some (.lst xs)) : TEx H (upd H D o) := fun p ys q => by
  rw [upd_ne (ne_of q h fun z => nomatch z)]
  exact q
theorem IsT.tm {H H' : Hp} {v : V} {xs : List V} (e : TEx H H') (h : IsT H v xs) : IsT H' v xs := by
  obtain ⟨p, a, b⟩ := h
  exact ⟨p, a, e _ _ b⟩
/-- what is given by the turns below n -/
def giv {α : Type} (n : Nat) (keep : Nat → Bool) (f : Nat → α) : List α := ((List.range n).filter keep).map f
theorem giv_yes {α : Type} {n : Nat} {k : Nat → Bool} {f : Nat → α} (h : k n = true) : giv (n + 1) k f = giv n k f ++ [f n] := by
  unfold giv
  rw [List.range_succ, List.filter_append, List.map_append]
  simp [h]
theorem giv_no {α : Type} {n : Nat} {k : Nat → Bool} {f : Nat → α} (h : k n = false) : giv (n + 1) k f = giv n k f := by
  unfold giv
  rw [List.range_succ, List.filter_append, List.map_append]
  simp [h]
theorem giv_len {α : Type} (n : Nat) (k : Nat → Bool) (f : Nat → α) : (giv n k f).length ≤ n := by
  unfold giv
  rw [List.length_map]
  exact Nat.le_trans (List.length_filter_le _ _) (by simp)
theorem giv_all {α : Type} (n : Nat) (f : Nat → α) : giv n (fun _ => true) f = (List.range n).map f := by
  unfold giv
  rw [List.filter_eq_self.mpr fun _ _ => rfl]
/-- the i-th, else a value that is never asked -/
theorem map_range_get {α β : Type} [Inhabited α] (l : List α) (f : α → β) : (List.range l.length).map (fun i => f (l.getD i default)) = l.map f := by
  refine List.ext_getElem? fun i => ?_
  rw [List.getElem?_map, List.getElem?_map]
  by_cases h : i < l.length
  · rw [List.getElem?_range h, List.getElem?_eq_getElem h]
    simp [List.getD_eq_getElem?_getD, List.getElem?_eq_getElem h]
  · rw [List.getElem?_eq_none (by simpa using h), List.getElem?_eq_none (Nat.le_of_not_lt h)]
    rfl
theorem lc_go {α : Type} {J : It} {n : Nat} {G : Hp → Prop} {Y : Nat → Hp → V → Hp → Prop} {g : TG} {tt : TT} {te : TE} {vs : List Nat} {σ : L2.St} {H1 : Hp} {Q : Addr → Hp → Prop} (wk : Walk J n G Y) (hn : n ≤ 50000) (hG : ∀ H', Ex H1 H' → G H')
    (R : Hp → V → α → Prop) (hR : ∀ H H' v d, TEx H H' → R H v d → R H' v d) (keep : Nat → Bool) (f : Nat → α)
    (hs : ∀ i x H' H'', i < n → Ex H1 H' → Y i H' x H'' → ∀ (F : Hp → Prop) (S : VK), (keep i = false → ∀ H3, Ex H' H3 → F H3) → (keep i = true → ∀ y H4, Ex H' H4 → R H4 y (f i) → S y H4) →
      g x (wipe σ vs) H'' fun σ2 H2 => wipe σ2 vs = wipe σ vs ∧ tt σ2 H2 fun b H3 => if b = true then te σ2 H3 S else F H3)
    (hd : ∀ D H' xs, H1 D = none → Ex H1 H' → H' D = some (.lst xs) → Each (R H') xs (giv n keep f) → Q D H') :
    ∀ D, H1 D = none → ∃ W : Nat → Nat → Hp → Prop, (∃ m, W 0 m (upd H1 D (.lst []))) ∧ ∀ i m H, W i m H →
      (J.stop i H ∧ Q D H) ∨ (J.go i H ∧ ∃ Nx : Hp → Prop, (∀ H', Nx H' → ∃ m', m' < m ∧ W (i + 1) m' H') ∧ ∀ x H', J.yld i H x H' → g x (wipe σ vs) H' fun σ2 H2 => wipe σ2 vs = wipe σ vs ∧ tt σ2 H2 fun b H3 =>
        if b = true then te σ2 H3 fun y H4 => ∃ acc, H4 D = some (.lst acc) ∧ acc.length < sizeLine ∧ Nx (upd H4 D (.lst (acc ++ [y]))) else Nx H3) := by
  intro D nD
  refine lc_it wk (Qd := fun H => Q D H) (fun i H => Ex H1 H ∧ ∃ xs, H D = some (.lst xs) ∧ Each (R H) xs (giv i keep f)) ⟨Ex.new nD, [], upd_same, Each.nil⟩ (fun i H hi p => hG H p.1) ?_ ?_
  · rintro i x H' H'' hi ⟨e1, xs, hx, he⟩ y
    refine hs i x H' H'' hi e1 y _ _ (fun hk H3 e3 => ?_) fun hk z H4 e4 r => ?_
    · refine ⟨e1.trans e3, xs, e3.lst hx, ?_⟩
      rw [giv_no hk]
      exact he.mono fun v d q => hR _ _ v d e3.t q
    · have hl : xs.length ≤ n := by
        rw [he.1]
        exact Nat.le_trans (giv_len i keep f) (Nat.le_of_lt hi)
      have e5 : Ex H1 (upd H4 D (.lst (xs ++ [z]))) := Ex.mut (e1.trans e4) nD
      refine ⟨xs, e4.lst hx, szl _ (by omega), e5, xs ++ [z], upd_same, ?_⟩
      rw [giv_yes hk]
      have t1 : TEx H4 (upd H4 D (.lst (xs ++ [z]))) := TEx.lst (e4.lst hx)
      exact (he.mono fun v d q => hR _ _ v d t1 (hR _ _ v d e4.t q)).snoc (hR _ _ _ _ t1 r)
  · rintro H' ⟨e1, xs, hx, he⟩
    exact hd D H' xs nD e1 hx he
theorem lc_all {α : Type} {J : It} {n : Nat} {G : Hp → Prop} {Y : Nat → Hp → V → Hp → Prop} {g : TG} {te : TE} {vs : List Nat} {σ : L2.St} {H1 : Hp} {Q : Addr → Hp → Prop} (wk : Walk J n G Y) (hn : n ≤ 50000) (hG : ∀ H', Ex H1 H' → G H')
    (R : Hp → V → α → Prop) (hR : ∀ H H' v d, TEx H H' → R H v d → R H' v d) (f : Nat → α) (hg : ∀ x σ H Q Q', (∀ σ2 H2, Q σ2 H2 → Q' σ2 H2) → g x σ H Q → g x σ H Q')
    (hs : ∀ i x H' H'', i < n → Ex H1 H' → Y i H' x H'' → ∀ S : VK, (∀ y H4, Ex H' H4 → R H4 y (f i) → S y H4) → g x (wipe σ vs) H'' fun σ2 H2 => wipe σ2 vs = wipe σ vs ∧ te σ2 H2 S)
    (hd : ∀ D H' xs, H1 D = none → Ex H1 H' → H' D = some (.lst xs) → Each (R H') xs ((List.range n).map f) → Q D H') :
    ∀ D, H1 D = none → ∃ W : Nat → Nat → Hp → Prop, (∃ m, W 0 m (upd H1 D (.lst []))) ∧ ∀ i m H, W i m H →
      (J.stop i H ∧ Q D H) ∨ (J.go i H ∧ ∃ Nx : Hp → Prop, (∀ H', Nx H' → ∃ m', m' < m ∧ W (i + 1) m' H') ∧ ∀ x H', J.yld i H x H' → g x (wipe σ vs) H' fun σ2 H2 => wipe σ2 vs = wipe σ vs ∧ tYes σ2 H2 fun b H3 =>
        if b = true then te σ2 H3 fun y H4 => ∃ acc, H4 D = some (.lst acc) ∧ acc.length < sizeLine ∧ Nx (upd H4 D (.lst (acc ++ [y]))) else Nx H3) :=
  lc_go wk hn hG R hR (fun _ => true) f (fun i x H' H'' hi e y F S _ hS => hg _ _ _ _ _ (fun σ2 H2 q => ⟨q.1, show (if true = true then te σ2 H2 S else F H2) from iteT q.2⟩) (hs i x H' H'' hi e y S fun y H4 e4 r => hS rfl y H4 e4 r)) fun D H' xs nD e1 hD hE => hd D H' xs nD e1 hD (by rw [← giv_all]; exact hE)
/-- targets hand on what they are asked -/
theorem gm1 (i : Nat) : ∀ x σ H Q Q', (∀ σ2 H2, Q σ2 H2 → Q' σ2 H2) → gName i x σ H Q → gName i x σ H Q' := fun _ _ _ _ _ h q => h _ _ q
theorem gm2 (K : PySem.W.Frag) (i j : Nat) : ∀ x σ H Q Q', (∀ σ2 H2, Q σ2 H2 → Q' σ2 H2) → gTup K 2 (gCons (gName i) (gCons (gName j) gNil)) x σ H Q → gTup K 2 (gCons (gName i) (gCons (gName j) gNil)) x σ H Q' := by
  rintro x σ H Q Q' h ⟨a, xs, e1, e2, e3, v, r, e4, u, r', e5, e6, q⟩
  exact ⟨a, xs, e1, e2, e3, v, r, e4, u, r', e5, e6, h _ _ q⟩
theorem bl_t {p : Prop} [Decidable p] (h : p) : V.bl (decide p) = V.bl true := by rw [decide_eq_true h]
theorem bl_f {p : Prop} [Decidable p] (h : ¬ p) : V.bl (decide p) = V.bl false := by rw [decide_eq_false h]
theorem getD_at {ns : List Int} {i : Nat} {n : Int} (h : ns[i]? = some n) : ns.getD i 0 = n := by
  rw [List.getD_eq_getElem?_getD, h]
  rfl
theorem iv_map {α : Type} (ns : List Int) (f : Int → α) : (List.range (iv ns).length).map (fun i => f (ns.getD i 0)) = ns.map f := by
  rw [iv_len]
  exact map_range_get ns f
/-- what max(0, x) gives -/
def mx0 (x : Int) : Int := if x > 0 then x else 0
/-! ### slices -/
theorem sIx_k (n d k : Nat) {i : Int} (h : i = (k : Int)) : HT.sIx n d (some i) = min k n := by
  rw [h]
  exact HT.sIx_nat n d k
theorem cut_from {xs : List V} {i : Int} (k : Nat) (h : i = (k : Int)) : cutV xs (some i) none = xs.drop k := by
  unfold cutV
  rw [sIx_k xs.length 0 k h, HT.sIx_none]
  by_cases hk : k ≤ xs.length
  · rw [Nat.min_eq_left hk]
    exact List.take_of_length_le (by rw [List.length_drop]; exact Nat.le_refl _)
  · rw [Nat.min_eq_right (by omega), List.drop_of_length_le (Nat.le_refl _), List.drop_of_length_le (by omega)]
    exact List.take_nil
theorem cut_to {xs : List V} {i : Int} (k : Nat) (h : i = (k : Int)) : cutV xs none (some i) = xs.take k := by
  unfold cutV
  rw [sIx_k xs.length xs.length k h, HT.sIx_none, List.drop_zero, Nat.sub_zero]
  by_cases hk : k ≤ xs.length
  · rw [Nat.min_eq_left hk]
  · rw [Nat.min_eq_right (by omega), List.take_of_length_le (Nat.le_refl _), List.take_of_length_le (by omega)]
theorem cut_m1 (xs : List V) : cutV xs none (some (-1)) = xs.dropLast := by
  unfold cutV
  have e : HT.sIx xs.length xs.length (some (-1)) = xs.length - 1 := by
    show (if (-1 : Int) < 0 then ((-1 : Int) + (xs.length : Int)).toNat else min (-1 : Int).toNat xs.length) = _
    rw [if_pos (by decide)]
    omega
  rw [e, HT.sIx_none, List.drop_zero, Nat.sub_zero, List.dropLast_eq_take]
theorem atI_m1 {α : Type} {xs : List α} {v : α} (h : xs[xs.length - 1]? = some v) : atI xs (-1) = some v := by
  have hl : 0 < xs.length := by
    have := (List.getElem?_eq_some_iff.mp h).1
    omega
  have e : ixN xs.length (-1) = some (xs.length - 1) := by
    unfold ixN
    rw [if_neg (by decide), if_pos (by omega)]
    exact congrArg some (by omega)
  unfold atI
  rw [e]
  exact h
/-! ### or, and, of two values -/
theorem orV_val {ta tb : TE} {σ : L2.St} {H : Hp} {Q : VK} (a b : Bool) (ha : ∀ Q : VK, Q (.bl a) H → ta σ H Q) (hb : a = false → ∀ Q : VK, Q (.bl b) H → tb σ H Q) (q : Q (.bl (a || b)) H) : tOrV ta tb σ H Q := by
  refine ha _ ⟨a, rfl, ?_⟩
  cases a with
  | true => exact q
  | false => exact hb rfl Q q
theorem andV_val {ta tb : TE} {σ : L2.St} {H : Hp} {Q : VK} (a b : Bool) (ha : ∀ Q : VK, Q (.bl a) H → ta σ H Q) (hb : a = true → ∀ Q : VK, Q (.bl b) H → tb σ H Q) (q : Q (.bl (a && b)) H) : tAndV ta tb σ H Q := by
  refine ha _ ⟨a, rfl, ?_⟩
  cases a with
  | true => exact hb rfl Q q
  | false => exact q
theorem gpair {K : PySem.W.Frag} {T : Addr} {x y : V} {i j : Nat} {σ : L2.St} {H : Hp} {Q : L2.St → Hp → Prop} (hT : H T = some (.tup [x, y])) (q : Q ((σ.set i (some x)).set j (some y)) H) : gTup K 2 (gCons (gName i) (gCons (gName j) gNil)) (.ref T) σ H Q :=
  ⟨T, _, rfl, SqT.of hT, rfl, x, [y], rfl, y, [], rfl, rfl, q⟩
end K7

set_option Elab.async false
set_option linter.all false
set_option maxRecDepth 100000
set_option maxHeartbeats 4000000
/-! further rules: sum of a tuple, powers of great numbers, enumerate of a tuple, zip of a tuple and a list, max with default=. -/
namespace K7
open PySem PySem.Spec PyProof.Rows L2
section
variable {X : Cx}
/-! ### sum(tuple) -/
def rSumT : List V → Hp → VK → Prop := fun vs H Q => ∃ (p : Addr) (ns : List Int), vs = [V.ref p] ∧ H p = some (.tup (iv ns)) ∧ Q (.int ns.sum) H
theorem cr_sumT (hc : X.calm = true) : CallR X (.builtin "sum") rSumT := by
  intro pins s σ H vs us Q I r h
  obtain ⟨p, ns, rfl, hp, q⟩ := h
  obtain ⟨its, rv, tp, _⟩ := I.tuple (SqT.of hp)
  rw [Vals.ref1 r]
  obtain ⟨xs, hx⟩ := rv.ints.allInts.items
  have hn : numsOf its.toArray.toList = ns := rv.ints.numsOf
  have ht : s.heap.IsTuple p its.toArray := tp
  rw [hx] at ht hn
  rw [nums_intItems] at hn
  refine PySem.W.ktm_sumG (I.ok.hd hc) ht fun h' tk t' hk => ⟨.int ns.sum, H, I.kept hk, ⟨t', ?_⟩, q⟩
  rw [preSum_eq, List.take_of_length_le (by simp), hn]
/-! ### a ** b -/
def CPowW (i j : Int) : Prop := 0 ≤ j ∧ (Builtin.Int.intBits i : Int) * j ≤ 2 ^ 27
theorem op_powW : OpR X (binaryOp .Pow) (rI CPowW fun i j => .int (i ^ j.toNat)) := opI fun _ _ _ _ _ _ _ hc q => pow_int hc.1 hc.2 q
/-! ### enumerate(tuple) -/
def ItEt (a : Addr) : It where
  go := fun i H => ∃ (xs : List V) (x : V), H a = some (.tup xs) ∧ xs[i]? = some x
  yld := fun i H v H' => ∃ T x, v = .ref T ∧ H T = none ∧ H' = upd H T (.tup [.int (i : Nat), x]) ∧ ∀ xs, H a = some (.tup xs) → xs[i]? = some x
  stop := fun i H => ∃ xs : List V, H a = some (.tup xs) ∧ xs.length = i
theorem meets_enumT (t : Addr) (items : Array Value) : Meets (Builtin.«enumerate.__new__» ⟨[.type "enumerate", .ref t], []⟩) (fun _ R s => s.heap.IsTuple t items ∧
      R (.ok (.ret (.ref (s.heap.push { cls := .type "tuple_iterator", data := .fields #[.ref t, .int 0 0] }).objs.size)))
        { s with heap := (s.heap.push { cls := .type "tuple_iterator", data := .fields #[.ref t, .int 0 0] }).push { cls := .type "enumerate", data := .fields #[.none, .bool false, .ref s.heap.objs.size, rawInt 0, .none, .none] } }) :=
  .of_wp fun prog w A R s h => by
    obtain ⟨hp, g, d, tk, os⟩ := s
    obtain ⟨hl, h⟩ := h
    have hsub := sub_enumerate
    have q1 : ∀ {A' : Around} {E : Value → Shared → Prop} {Q : Value → Shared → Prop}, Q (.ref hp.objs.size) ⟨hp.push { cls := .type "tuple_iterator", data := .fields #[.ref t, .int 0 0] }, g, d, tk, os⟩ → wpAny (model prog w) A' (pyIter (.ref t)) Q E ⟨hp, g, d, tk, os⟩ :=
      fun q => wpAny_pyIter_tuple hl q
    wp_walk using q1
    refine wpAny_stack_any fun st => wpAny_pure ?_
    split
    · rename_i c _ _ _ _ _
      cases (c == Value.type "enumerate")
      · wp_walk using q1
        exact ⟨_, rfl, h⟩
      · wp_walk using q1
        exact ⟨_, rfl, h⟩
    · wp_walk using q1
      exact ⟨_, rfl, h⟩
end
end K7

set_option Elab.async false
set_option linter.all false
set_option maxRecDepth 100000
set_option maxHeartbeats 4000000
namespace K7
open PySem PySem.Spec PyProof.Rows L2
section
variable {prog : Program} {w : World} {A : Around} {E : Value → Shared → Prop} {s : Shared}
theorem call_enumT {t : Addr} {items : Array Value} {Q : Value → Shared → Prop} (hl : s.heap.IsTuple t items)
    (h : ∀ h', IsEnum h' (s.heap.objs.size + 1) s.heap.objs.size 0 .none → h'.IsTupleIter s.heap.objs.size t 0 → (∀ b o, s.heap.get? b = some o → h'.get? b = some o) → Q (.ref (s.heap.objs.size + 1)) { s with heap := h' }) :
    wpAny (model prog w) A (call (.type "enumerate") [.ref t]) Q E s := by
  refine callType_new F.called_enumerate (by decide) (F.typeCall_enumerate_1 _) (F.newCall_enumerate_1 _) (fun obj => F.args_object_init_2 obj _) F.entry_enumerate_new (meets_enumT t items) ⟨hl, ?_⟩
  generalize ho : ({ cls := .type "tuple_iterator", data := .fields #[.ref t, .int 0 0] } : Obj) = o
  have of : o.isFreed = false := by rw [← ho]; rfl
  have hz : (s.heap.push o).objs.size = s.heap.objs.size + 1 := Heap.size_push ..
  show _ ∧ _
  rw [hz]
  have he : IsEnum ((s.heap.push o).push { cls := .type "enumerate", data := .fields #[.none, .bool false, .ref s.heap.objs.size, rawInt 0, .none, .none] }) (s.heap.objs.size + 1) s.heap.objs.size 0 .none := by
    have q := Heap.get?_push_size (s.heap.push o) (o := { cls := .type "enumerate", data := .fields #[.none, .bool false, .ref s.heap.objs.size, rawInt 0, .none, .none] }) rfl
    rw [hz] at q
    exact q
  refine ⟨⟨_, he, rfl⟩, h _ he ?_ fun b o' x => Heap.get?_push_of_some _ (Heap.get?_push_of_some _ x)⟩
  exact ⟨o, Heap.get?_push_of_some _ (Heap.get?_push_size _ of), by rw [← ho], by rw [← ho]; rfl⟩
end
theorem turn_enumT {P : Program} {w : World} {K : PySem.W.Frag} {elts : List Expr} {kk : Nat} {tpos : Pos} (a e it : Addr) (hae : a ≠ it) :
    Turn P w K (.Tuple elts kk tpos) (ItEt a) [e, it] e (fun i h => (∃ old, IsEnum h e it ((i : Nat) : Int) old) ∧ h.IsTupleIter it a i ∧ e ≠ it ∧ e ≠ a) where
  mem := List.mem_cons_self
  obj := fun i h st b hb => by
    obtain ⟨⟨old, he⟩, ⟨o, ho, hc, hd⟩, _⟩ := st
    rcases List.mem_cons.mp hb with z | z
    · subst z
      exact ⟨_, he, fun v q => nomatch q⟩
    · obtain rfl := List.mem_singleton.mp z
      exact ⟨o, ho, fun v q => by rw [hd] at q; cases q⟩
  keep := fun i h h' st k => by
    obtain ⟨⟨old, he⟩, hi, hne⟩ := st
    exact ⟨⟨old, k e (by simp) _ he⟩, hi.at fun o q => k it (by simp) o q, hne⟩
  item := by
    intro X hP hw hK hc i pins s σ H E I hf st hg
    subst hP hw hK
    obtain ⟨⟨old, he⟩, hit, hne, hea⟩ := st
    obtain ⟨xs, x, hq, hx⟩ := hg
    obtain ⟨its, rv, p, _⟩ := I.tuple (SqT.of hq)
    have ht : s.heap.IsTuple a its.toArray := p
    obtain ⟨u, hu, ru⟩ := rv.get hx
    have hlt : i < its.toArray.size := by
      rw [List.size_toArray]
      exact (List.getElem?_eq_some_iff.mp hu).1
    have lt2 : e < s.heap.objs.size ∧ it < s.heap.objs.size := ⟨Heap.lt_size he, by obtain ⟨_, q, _⟩ := hit; exact Heap.lt_size q⟩
    have D := Draws.tuple (prog := X.prog) (w := X.w) (A := X.A.in1) (I.ok.hd hc) it a hae its.toArray
    refine wpAny_pyNext_enum_itemD D he ⟨hit, ht⟩ hlt hne (by simp [hne, hea]) fun y h' tk hy ho st' hT hsz hk => ?_
    have ey : y = u := by
      have q : its.toArray[i]? = some y := hy
      rw [List.getElem?_toArray, hu] at q
      exact (Option.some.inj q).symm
    subst ey
    refine ⟨_, rfl, wpAny_letOwnedTupleGo_enum (s := { s with heap := h', toks := tk + 1 }) ho fun h2 he2 sb => ?_⟩
    have hT2 : h2.get? s.heap.objs.size = some { cls := .type "tuple", data := .seq #[.int i tk, y] } := (sb.2 _ (Nat.ne_of_gt lt2.1)).trans hT
    have I1 : Inv X pins σ (upd H s.heap.objs.size (.tup [.int (i : Nat), x])) { s with heap := h2, toks := tk + 1 } :=
      I.turnedNew (ch := [e, it]) (fun b ob hb q => (sb.2 b (fun z => hb (by simp [z]))).trans (hk b ob (fun z => hb (by simp [z])) (fun z => hb (by simp [z])) q)) hf (Nat.le_refl _)
        ⟨by show 2 ≤ sizeLine; decide, [.int i tk, y], .cons ⟨_, rfl⟩ (.cons ru .nil), ⟨_, hT2, rfl, _, rfl⟩⟩
    refine ⟨.ref s.heap.objs.size, _, I1, rfl, ⟨_, x, rfl, I.hok.fresh (Nat.le_refl _), rfl, fun ys hy => ?_⟩, ⟨⟨y, ?_⟩, st'.1.at fun o q => (sb.2 it (Ne.symm hne)).trans q, hne, hea⟩, fun b hb => ?_⟩
    · rw [hq] at hy
      cases hy
      exact hx
    · have e1 : ((i + 1 : Nat) : Int) = (i : Int) + 1 := by omega
      rw [e1]
      exact he2
    · have hb' : b < s.heap.objs.size := by
        rcases List.mem_cons.mp hb with z | z
        · rw [z]; exact lt2.1
        · rw [List.mem_singleton.mp z]; exact lt2.2
      rw [upd_ne (Nat.ne_of_lt hb')]
      exact (hf b hb).1
  done := by
    intro X hP hw hK hc i pins s σ H E I hf st hg
    subst hP hw hK
    obtain ⟨⟨old, he⟩, hit, hne, hea⟩ := st
    obtain ⟨xs, hq, hx⟩ := hg
    obtain ⟨its, rv, p, _⟩ := I.tuple (SqT.of hq)
    have ht : s.heap.IsTuple a its.toArray := p
    obtain ⟨f0, f1, f2, f3, f4, f5⟩ := hf it (by simp)
    have hn : its.toArray.size = i := by rw [List.size_toArray, ← rv.length, hx]
    have D := Draws.tuple (prog := X.prog) (w := X.w) (A := X.A.in1) (I.ok.hd hc) it a hae its.toArray
    refine wpAny_pyNext_enum_endD D he (by rw [hn]; exact ⟨hit, ht⟩) fun h' eb => ⟨rfl, I.turned (t' := s.toks) (fun b o hb q => eb b o hb q) f0 f1 f3 f4 f5⟩
  self := fun A i s Q E st h => let ⟨⟨_, he⟩, _⟩ := st; wpAny_pyIter_enum he h
def iEnT (ta : TA) : TI := fun σ H R => ta σ H fun vs H1 => ∃ a xs, vs = [.ref a] ∧ H1 a = some (.tup xs) ∧ R (ItEt a) H1
theorem pi_enumT {X : Cx} {e : Expr} {ta : TA} {p pos tpos : Pos} {elts : List Expr} {kk : Nat} (hg : Gl X "enumerate") (hm : X.mg "enumerate" = none) (ha : PA X [e] ta) (hs : starEach [e] X.env = [(false, eval e X.env)] := by rfl) :
    PI X (.Tuple elts kk tpos) (.Call (.Name "enumerate" p) [e] [] pos) (iEnT ta) := by
  refine ⟨fun pins s σ H R I h => ?_⟩
  refine Call_ (ld_blt I hg hm boot_enumerate (PyProof.Rows.callWith_type1 (thn (ha.run pos pins s σ H _ I h) fun us s1 ⟨vs, H1, I1, r1, a, xs, ex, hq, q⟩ => ?_) hs rfl))
  subst ex
  rw [Vals.ref1 r1]
  obtain ⟨its, rv, p', _⟩ := I1.tuple (SqT.of hq)
  have ht : s1.heap.IsTuple a its.toArray := p'
  have hlt : a < s1.heap.objs.size := by obtain ⟨_, z, _⟩ := id ht; exact Heap.lt_size z
  refine call_enumT ht fun h' he hit hk => wpAny_pyIter_enum he ?_
  have I2 : Inv X pins σ H1 { s1 with heap := h' } := I1.kept (t' := s1.toks) hk
  have hle : ∀ b, b ∈ [s1.heap.objs.size + 1, s1.heap.objs.size] → s1.heap.objs.size ≤ b := fun b hb => by
    rcases List.mem_cons.mp hb with z | z
    · rw [z]; exact Nat.le_add_right _ _
    · rw [List.mem_singleton.mp z]; exact Nat.le_refl _
  exact ⟨s1.heap.objs.size + 1, [s1.heap.objs.size + 1, s1.heap.objs.size], _, _, H1, rfl, I2, turn_enumT a (s1.heap.objs.size + 1) s1.heap.objs.size (Nat.ne_of_lt hlt), ⟨⟨.none, he⟩, hit, Nat.succ_ne_self _, Nat.ne_of_gt (Nat.lt_succ_of_lt hlt)⟩, fun b hb => I1.fpOk (hle b hb) (I1.hok.fresh (hle b hb)), q⟩
theorem walk_enumT {a : Addr} {xs : List V} : Walk (ItEt a) xs.length (fun H => H a = some (.tup xs)) (YPair (fun i => some (.int (i : Nat))) (fun i => xs[i]?)) :=
  ⟨fun i _ hi q => ⟨xs, xs[i], q, by simp [hi]⟩, fun _ q => ⟨xs, q, rfl⟩, fun i H v H' _ q ⟨T, x, h1, h2, h3, h4⟩ => ⟨T, .int (i : Nat), x, h1, h2, h3, rfl, h4 xs q⟩⟩
/-! ### max(list, default=0) -/
/-- the greatest, 0 of none -/
def max0 : List Int → Int
  | [] => 0
  | n :: ns => ns.foldl max n
def tMaxD (te : TE) : TE := fun σ H Q => te σ H fun v H1 => ∃ (p : Addr) (ns : List Int), v = .ref p ∧ H1 p = some (.lst (iv ns)) ∧ Q (.int (max0 ns)) H1
theorem reads_ints {h : Heap} {ns : List Int} : ∀ {us : List Value}, Vals (iv ns) us → ReadsAll h us (ns.map PyData.int) [] := by
  induction ns with
  | nil =>
    intro us r
    cases r
    exact .nil
  | cons n r ih =>
    intro us rv
    cases rv with
    | cons r1 rr =>
      obtain ⟨t, rfl⟩ := r1
      exact .cons (.int _ _) (ih rr)
end K7

set_option Elab.async false
set_option linter.all false
set_option maxRecDepth 100000
set_option maxHeartbeats 4000000
namespace K7
open PySem PySem.Spec PyProof.Rows L2
theorem depth_ints (ns : List Int) : PyData.depthAll (ns.map PyData.int) = 0 := by
  induction ns with
  | nil => rfl
  | cons n r ih =>
    rw [List.map_cons]
    show max (PyData.depth (.int n)) (PyData.depthAll (r.map .int)) = 0
    rw [ih]
    rfl
theorem alike_all_ints (ns : List Int) : PySem.W.AlikeAll (ns.map PyData.int) := by
  refine ⟨fun x hx y hy => ?_, fun x hx => ?_⟩
  · obtain ⟨i, _, rfl⟩ := List.mem_map.mp hx
    obtain ⟨j, _, rfl⟩ := List.mem_map.mp hy
    rfl
  · obtain ⟨i, _, rfl⟩ := List.mem_map.mp hx
    intro z
    cases z
section
variable {X : Cx}
def rMaxD : List V → List V → Hp → VK → Prop := fun vs zs H Q => ∃ (p : Addr) (ns : List Int), vs = [.ref p] ∧ zs = [.int 0] ∧ H p = some (.lst (iv ns)) ∧ Q (.int (max0 ns)) H
theorem cr_maxD (hc : X.calm = true) (hu : X.A.units + 1 < cLine) : CallRK X (.builtin "max") [Str.ofString "default"] rMaxD := by
  intro pins s σ H xs zs us ws Q I r rk h
  obtain ⟨p, ns, rfl, rfl, hp, q⟩ := h
  obtain ⟨its, rv, pl, _⟩ := I.list (SqL.of hp)
  rw [Vals.ref1 r]
  obtain ⟨u, rfl, t, rfl⟩ := vals1 rk
  have rr : ReadsAll s.heap its.toArray.toList (ns.map PyData.int) [] := reads_ints rv
  refine PySem.W.max_list_default (I.ok.hd hc) pl.isList rr (alike_all_ints ns) (by rw [depth_ints]; exact hu) (fun e h' tk hk => ?_) fun y ys i v h' tk bs e hi rd hk => ?_
  · have en : ns = [] := List.map_eq_nil_iff.mp e
    subst en
    exact ⟨.int 0, H, I.kept hk, ⟨t, rfl⟩, q⟩
  · cases ns with
    | nil => cases e
    | cons n r =>
      rw [List.map_cons] at e
      injection e with e1 e2
      subst e1
      subst e2
      rw [PySem.W.maxD_ints] at rd
      cases rd with
      | int z t' => exact ⟨.int (r.foldl max n), H, I.kept hk, ⟨t', rfl⟩, q⟩
theorem pe_maxD {e : Expr} {te : TE} {p pos p1 kp : Pos} {k : Nat} (hg : Gl X "max") (hm : X.mg "max" = none) (he : PE X e te) (hc : X.calm = true := by rfl) (hu : X.A.units + 1 < cLine := by exact hu_of (by assumption)) (hst : starEach [e] X.env = [(false, eval e X.env)] := by rfl) :
    PE X (.Call (.Name "max" p) [e] [⟨some "default", .Constant (.int 0) k p1, kp⟩] pos) (tMaxD te) := by
  have base := pe_callBK (p := p) (pos := pos) (kws := [⟨some "default", .Constant (.int 0) k p1, kp⟩]) (cr_maxD hc hu) hg hm boot_max (pa_cons he pa_nil hst) (pk_cons pe_int pk_nil) (by decide) (by decide) (by rw [hst]; rfl) (by rw [hst]; rfl)
  refine ⟨fun pins s σ H Q I h => base.run pins s σ H Q I ?_⟩
  refine (?_ : te σ H fun x H1 => rMaxD [x] [.int 0] H1 Q)
  have e1 : (fun x H1 => rMaxD [x] [.int 0] H1 Q) = (fun v H1 => ∃ (p : Addr) (ns : List Int), v = .ref p ∧ H1 p = some (.lst (iv ns)) ∧ Q (.int (max0 ns)) H1) := by
    funext v H1
    refine propext ⟨?_, ?_⟩
    · rintro ⟨p, ns, e, _, hp, q⟩
      exact ⟨p, ns, List.singleton_inj.mp e, hp, q⟩
    · rintro ⟨p, ns, rfl, hp, q⟩
      exact ⟨p, ns, rfl, rfl, hp, q⟩
  rw [e1]
  exact h
end
/-! ### zip(tuple, list) -/
def ItZm (a b : Addr) : It where
  go := fun i H => ∃ (xs ys : List V) (x y : V), H a = some (.tup xs) ∧ H b = some (.lst ys) ∧ xs[i]? = some x ∧ ys[i]? = some y
  yld := fun i H v H' => ∃ T x y, v = .ref T ∧ H T = none ∧ H' = upd H T (.tup [x, y]) ∧ (∀ xs, H a = some (.tup xs) → xs[i]? = some x) ∧ ∀ ys, H b = some (.lst ys) → ys[i]? = some y
  stop := fun i H => ∃ xs ys : List V, H a = some (.tup xs) ∧ H b = some (.lst ys) ∧ i = min xs.length ys.length
theorem turn_zipm {P : Program} {w : World} {K : PySem.W.Frag} {elts : List Expr} {kk : Nat} {tpos : Pos} {a b z TI TO i1 i2 : Addr} (S : ZipSep2 z TI TO i1 i2 [i1, a] [i2, b]) (n1 : a ≠ i1) (n2 : b ≠ i2) :
    Turn P w K (.Tuple elts kk tpos) (ItZm a b) [z, TI, TO, i1, i2] z (fun i h => IsZip h z TI TO .none ∧ IsPair h TI (.ref i1) (.ref i2) ∧ (∃ x y, IsPair h TO x y) ∧ h.IsTupleIter i1 a i ∧ h.IsListIter i2 b i) where
  mem := List.mem_cons_self
  obj := fun i h st c hc => by
    obtain ⟨hz, hTI, ⟨x, y, hTO⟩, ⟨o1, e1, _, d1⟩, ⟨o2, e2, _, d2⟩⟩ := st
    have e' : c = z ∨ c = TI ∨ c = TO ∨ c = i1 ∨ c = i2 := by simpa using hc
    rcases e' with rfl | rfl | rfl | rfl | rfl
    · exact ⟨_, hz, fun v q => nomatch q⟩
    · exact ⟨_, hTI, fun v q => nomatch q⟩
    · exact ⟨_, hTO, fun v q => nomatch q⟩
    · exact ⟨o1, e1, fun v q => by rw [d1] at q; cases q⟩
    · exact ⟨o2, e2, fun v q => by rw [d2] at q; cases q⟩
  keep := fun i h h' st k => by
    obtain ⟨hz, hTI, ⟨x, y, hTO⟩, h1, h2⟩ := st
    exact ⟨k z (by simp) _ hz, k TI (by simp) _ hTI, ⟨x, y, k TO (by simp) _ hTO⟩, h1.at fun o q => k i1 (by simp) o q, h2.at fun o q => k i2 (by simp) o q⟩
  item := by
    intro X hP hw hK hc i pins s σ H E I hf st hg
    subst hP hw hK
    obtain ⟨hz, hTI, ⟨x0, y0, hTO⟩, h1, h2⟩ := st
    obtain ⟨xs, ys, x, y, hqx, hqy, hx, hy⟩ := hg
    obtain ⟨its, rv, p, _⟩ := I.tuple (SqT.of hqx)
    obtain ⟨its2, rv2, p2, _⟩ := I.list (SqL.of hqy)
    have ht : s.heap.IsTuple a its.toArray := p
    obtain ⟨u, hu, ru⟩ := rv.get hx
    obtain ⟨u2, hu2, ru2⟩ := rv2.get hy
    have l1 : i < its.toArray.size := by rw [List.size_toArray]; exact (List.getElem?_eq_some_iff.mp hu).1
    have l2 : i < its2.toArray.size := by rw [List.size_toArray]; exact (List.getElem?_eq_some_iff.mp hu2).1
    have hzl : z < s.heap.objs.size := Heap.lt_size hz
    have D1 := Draws.tuple (prog := X.prog) (w := X.w) (A := X.A.in1) (I.ok.hd hc) i1 a n1 its.toArray
    have D2 := Draws.list (prog := X.prog) (w := X.w) (A := X.A.in1) (I.ok.hd hc) i2 b n2 its2.toArray
    refine wpAny_pyNext_zipD2_item S D1 D2 hz hTI hTO ⟨h1, ht⟩ ⟨h2, p2.isList⟩ l1 l2 fun y1 y2 h' tk e1 e2 z' TO' s1 s2 hT hsz hk => ?_
    have q1 : y1 = u := by
      have q : its.toArray[i]? = some y1 := e1
      rw [List.getElem?_toArray, hu] at q
      exact (Option.some.inj q).symm
    have q2 : y2 = u2 := by
      have q : its2.toArray[i]? = some y2 := e2
      rw [List.getElem?_toArray, hu2] at q
      exact (Option.some.inj q).symm
    subst q1 q2
    refine ⟨_, rfl, wpAny_letOwnedTupleGo_zip (s := { s with heap := h', toks := tk }) z' fun h'' z'' sb => ?_⟩
    have hT2 : h''.get? s.heap.objs.size = some { cls := .type "tuple", data := .seq #[y1, y2] } := (sb.2 _ (Nat.ne_of_gt hzl)).trans hT
    have I1 : Inv X pins σ (upd H s.heap.objs.size (.tup [x, y])) { s with heap := h'', toks := tk } :=
      I.turnedNew (ch := [z, TI, TO, i1, i2]) (fun c o hb q => (sb.2 c (fun q' => hb (by simp [q']))).trans (hk c o (fun q' => hb (by simp [q'])) (fun q' => hb (by simp [q'])) (fun q' => hb (by simp [q'])) (fun q' => hb (by simp [q'])) q)) hf (Nat.le_refl _)
        ⟨by show 2 ≤ sizeLine; decide, [y1, y2], .cons ru (.cons ru2 .nil), ⟨_, hT2, rfl, _, rfl⟩⟩
    refine ⟨.ref s.heap.objs.size, _, I1, rfl, ⟨_, x, y, rfl, I.hok.fresh (Nat.le_refl _), rfl, fun l hl => by rw [hqx] at hl; cases hl; exact hx, fun l hl => by rw [hqy] at hl; cases hl; exact hy⟩, ⟨z'', ?_, ⟨y1, y2, ?_⟩, ?_, ?_⟩, fun c hcm => ?_⟩
    · exact (sb.2 _ S.TIz).trans (hk _ _ S.TIz S.TITO S.TIi1 S.TIi2 hTI)
    · exact (sb.2 _ S.TOz).trans TO'
    · exact s1.1.at fun o q => (sb.2 _ (Ne.symm S.zi1)).trans q
    · exact s2.1.at fun o q => (sb.2 _ (Ne.symm S.zi2)).trans q
    · have hlt : c < s.heap.objs.size := by
        have e' : c = z ∨ c = TI ∨ c = TO ∨ c = i1 ∨ c = i2 := by simpa using hcm
        rcases e' with rfl | rfl | rfl | rfl | rfl
        · exact hzl
        · exact Heap.lt_size hTI
        · exact Heap.lt_size hTO
        · obtain ⟨_, e, _⟩ := h1; exact Heap.lt_size e
        · obtain ⟨_, e, _⟩ := h2; exact Heap.lt_size e
      rw [upd_ne (Nat.ne_of_lt hlt)]
      exact (hf c hcm).1
  done := by
    intro X hP hw hK hc i pins s σ H E I hf st hg
    subst hP hw hK
    obtain ⟨hz, hTI, ⟨x0, y0, hTO⟩, h1, h2⟩ := st
    obtain ⟨xs, ys, hqx, hqy, ex⟩ := hg
    obtain ⟨its, rv, p, _⟩ := I.tuple (SqT.of hqx)
    obtain ⟨its2, rv2, p2, _⟩ := I.list (SqL.of hqy)
    have ht : s.heap.IsTuple a its.toArray := p
    have l1 : its.toArray.size = xs.length := by rw [List.size_toArray, ← rv.length]
    have l2 : its2.toArray.size = ys.length := by rw [List.size_toArray, ← rv2.length]
    have D1 := Draws.tuple (prog := X.prog) (w := X.w) (A := X.A.in1) (I.ok.hd hc) i1 a n1 its.toArray
    have D2 := Draws.list (prog := X.prog) (w := X.w) (A := X.A.in1) (I.ok.hd hc) i2 b n2 its2.toArray
    exact wpAny_pyNext_zipD2_end S D1 D2 hz hTI hTO ⟨h1, ht⟩ ⟨h2, p2.isList⟩ (by omega) (by omega) (by omega) fun h' tk hk => ⟨rfl, I.turnedL (ch := [z, TI, TO, i1, i2]) (fun c o hb q =>
      hk c o (fun q' => hb (by simp [q'])) (fun q' => hb (by simp [q'])) (fun q' => hb (by simp [q'])) (fun q' => hb (by simp [q'])) q) hf⟩
  self := fun A i s Q E st h => wpAny_pyIter_zip st.1 h
theorem nm2 {c x y : Nat} (h1 : c ≠ x) (h2 : c ≠ y) : (c : Addr) ∉ ([x, y] : List Addr) := fun z => by
  rcases List.mem_cons.mp z with e | e
  · exact h1 e
  · exact h2 (List.mem_singleton.mp e)
theorem nen {c x : Nat} (h : c ≠ x) : (c : Addr) ≠ (x : Addr) := h
theorem sep_m (I a b : Nat) (h1 : a < I) (h2 : b < I) : ZipSep2 (I + 4) (I + 2) (I + 3) I (I + 1) [I, a] [I + 1, b] :=
  ⟨nen (by omega), nen (by omega), nen (by omega), nen (by omega), List.mem_cons_self, nm2 (by omega) (by omega), nm2 (by omega) (by omega), nen (by omega), List.mem_cons_self, nm2 (by omega) (by omega), nm2 (by omega) (by omega), nm2 (by omega) (by omega), nm2 (by omega) (by omega)⟩
def iZm (ta : TA) : TI := fun σ H R => ta σ H fun vs H1 => ∃ a b xs ys, vs = [.ref a, .ref b] ∧ H1 a = some (.tup xs) ∧ H1 b = some (.lst ys) ∧ R (ItZm a b) H1
theorem pi_zipTL {X : Cx} {e e2 : Expr} {ta : TA} {p pos tpos : Pos} {elts : List Expr} {kk : Nat} (hg : Gl X "zip") (hm : X.mg "zip" = none) (ha : PA X [e, e2] ta)
    (hs : starEach [e, e2] X.env = (false, eval e X.env) :: starEach [e2] X.env := by rfl) (hpl : (backTo pos (starEach [e2] X.env)).any (·.1) = false := by rfl) :
    PI X (.Tuple elts kk tpos) (.Call (.Name "zip" p) [e, e2] [] pos) (iZm ta) := by
  refine ⟨fun pins s σ H R I h => ?_⟩
  refine Call_ (ld_blt I hg hm PyProof.Rows.boot_zip (PyProof.Rows.callWith_type1 (thn (ha.run pos pins s σ H _ I h) fun us s1 ⟨vs, H1, I1, r1, a, b, xs, ys, ex, hqx, hqy, q⟩ => ?_) hs hpl))
  subst ex
  obtain ⟨u1, u2, rfl, z1, z2⟩ := vals2 r1
  cases z1
  cases z2
  obtain ⟨its, rv, p1, _⟩ := I1.tuple (SqT.of hqx)
  obtain ⟨its2, rv2, p2, _⟩ := I1.list (SqL.of hqy)
  have ht : s1.heap.IsTuple a its.toArray := p1
  have la : a < s1.heap.objs.size := by obtain ⟨_, z, _⟩ := id ht; exact Heap.lt_size z
  have lb : b < s1.heap.objs.size := p2.lt
  refine zip_begins2 (begins_tuple a its.toArray) (begins_list b its2.toArray) ht p2.isList fun h' hz hTI hTO g1 g2 hsz hk => wpAny_pyIter_zip hz ?_
  have I2 : Inv X pins σ H1 { s1 with heap := h' } := I1.kept (t' := s1.toks) hk
  have hle : ∀ c, c ∈ [s1.heap.objs.size + 4, s1.heap.objs.size + 2, s1.heap.objs.size + 3, s1.heap.objs.size, s1.heap.objs.size + 1] → s1.heap.objs.size ≤ c := fun c hcm => by
    have e' : c = s1.heap.objs.size + 4 ∨ c = s1.heap.objs.size + 2 ∨ c = s1.heap.objs.size + 3 ∨ c = s1.heap.objs.size ∨ c = s1.heap.objs.size + 1 := by simpa using hcm
    rcases e' with rfl | rfl | rfl | rfl | rfl
    · exact Nat.le_add_right _ _
    · exact Nat.le_add_right _ _
    · exact Nat.le_add_right _ _
    · exact Nat.le_refl _
    · exact Nat.le_add_right _ _
  exact ⟨s1.heap.objs.size + 4, [s1.heap.objs.size + 4, s1.heap.objs.size + 2, s1.heap.objs.size + 3, s1.heap.objs.size, s1.heap.objs.size + 1], _, _, H1, rfl, I2, turn_zipm (sep_m s1.heap.objs.size a b la lb) (Nat.ne_of_lt la) (Nat.ne_of_lt (Nat.lt_succ_of_lt lb)),
    ⟨hz, hTI, ⟨_, _, hTO⟩, ⟨_, g1, rfl, rfl⟩, ⟨_, g2, rfl, rfl⟩⟩, fun c hcm => I1.fpOk (hle c hcm) (I1.hok.fresh (hle c hcm)), q⟩
theorem walk_zipm {a b : Addr} {xs ys : List V} {n : Nat} (hn : n = min xs.length ys.length) : Walk (ItZm a b) n (fun H => H a = some (.tup xs) ∧ H b = some (.lst ys)) (YPair (fun i => xs[i]?) (fun i => ys[i]?)) := by
  subst hn
  refine ⟨fun i _ hi q => ?_, fun _ q => ⟨xs, ys, q.1, q.2, rfl⟩, fun i H v H' _ q ⟨T, x, y, h1, h2, h3, h4, h5⟩ => ⟨T, x, y, h1, h2, h3, h4 xs q.1, h5 ys q.2⟩⟩
  have h1 : i < xs.length := by omega
  have h2 : i < ys.length := by omega
  exact ⟨xs, ys, xs[i], ys[i], q.1, q.2, by simp [h1], by simp [h2]⟩
/-- zip of two tuples -/
theorem walk_zipt {K : PySem.W.Frag} {a b : Addr} {xs ys : List V} {n : Nat} (hn : n = min xs.length ys.length) : Walk (RZ.ItzT K a b) n (fun H => H a = some (.tup xs) ∧ H b = some (.tup ys)) (YPair (fun i => xs[i]?) (fun i => ys[i]?)) := by
  subst hn
  refine ⟨fun i _ hi q => ?_, fun _ q => ⟨xs, ys, SqT.of q.1, SqT.of q.2, by omega⟩, fun i H v H' _ q ⟨T, x, y, h1, h2, h3, h4, h5⟩ => ⟨T, x, y, h1, h2, h3, h4 xs (SqT.of q.1), h5 ys (SqT.of q.2)⟩⟩
  have h1 : i < xs.length := by omega
  have h2 : i < ys.length := by omega
  exact ⟨xs, ys, xs[i], ys[i], SqT.of q.1, SqT.of q.2, by simp [h1], by simp [h2]⟩
end K7

set_option Elab.async false
set_option linter.all false
set_option maxRecDepth 100000
set_option maxHeartbeats 4000000
namespace K7
open PySem PySem.Spec PyProof.Rows L2
/-! ### {f(x) for x in t}, t a tuple, all f(x) one number -/
def one (k : Int) (i : Nat) : Int → Bool := fun j => decide (0 < i) && decide (j = k)
def tSet1 (w : World) (ti : TE) (j : Nat) (te : TE) (vs : List Nat) : TE := fun σ H Q => ti σ H fun v H1 => ∃ (a : Addr) (xs : List V) (k : Int), v = .ref a ∧ H1 a = some (.tup xs) ∧ xs.length ≤ 100 ∧
  (∀ (i : Nat) (x : V) (H' : Hp), xs[i]? = some x → Ex H1 H' → wipe ((wipe σ vs).set j (some x)) vs = wipe σ vs ∧ ∀ S : VK, (∀ H2, Ex H' H2 → S (.int k) H2) → te ((wipe σ vs).set j (some x)) H' S) ∧
  ∀ (D : Addr) (H' : Hp), H1 D = none → Ex H1 H' → H' D = some (SetO w D (one k xs.length) (if xs.length = 0 then 0 else 1)) → Q (.ref D) H'
theorem one_next (k : Int) (i : Nat) : (fun j => one k i j || decide (j = k)) = one k (i + 1) := by
  funext j
  unfold one
  cases h : decide (j = k) <;> simp
theorem one_size (k : Int) (i : Nat) : (if one k i k = true then (if i = 0 then 0 else 1) else (if i = 0 then 0 else 1) + 1) = (if i + 1 = 0 then 0 else 1) := by
  unfold one
  cases i with
  | zero => simp
  | succ i => simp
section
variable {X : Cx}
theorem set1_core {pins : List (Addr × Obj)} {s : Shared} {σ : L2.St} {H : Hp} {Q : VK} {use : Option (Value → Sem Unit)} {Qf : Value → Shared → Prop} {elt iter : Expr} {x : Str} {px pos pos' : Pos} {scope : Scope} {j : Nat} {ti te : TE} (I : Inv X pins σ H s) (hc : X.calm = true) (hN : X.N.Nodup) (hi : PE X iter ti) (ok : BlkOk X.N X.env.scope scope [(x, j)])
    (hg : ∀ (s : Shared) (H : Hp) (C : Addr) (cl : List (Str × Addr)) (fp : List Addr), PG (X.blk s H scope (compEnvC scope cl C X.env) fp) (.Name x px) (gName j))
    (he : ∀ (s : Shared) (H : Hp) (C : Addr) (cl : List (Str × Addr)) (fp : List Addr), PE (X.blk s H scope (compEnvC scope cl C X.env) fp) elt te) (hs : ∀ v, foldedSetIterable iter X.env v = pure v) (h : tSet1 X.w ti j te [j] σ H Q)
    (fin : ∀ D C s' m H', Inv X pins σ H' s' → Q (.ref D) H' → s'.heap.Ns C m → FpOk X pins H' C → compPost (model X.prog X.w) X.A X.xe use Qf (.ref D) C (.ok .next) s') :
    wpAny (model X.prog X.w) X.A (comprehension (.SetComp elt [⟨.Name x px, iter, [], 0⟩] scope pos) scope X.env pos' (newSet (.type "set")) false (eval iter X.env) use) Qf X.xe s := by
  have cells : ∀ y ∈ scope.names, y.2 = .free → ∃ c, X.env.cells.lookup y.1 = some c := fun y hy e => I.ok.has _ (ok.free y hy e)
  refine wpAny_comprehension_free (use := use) rfl hs (closure_ok cells) ok.kind (fun y hy e => by rw [ok.uniq y hy, e]) (thn (hi.run pins s σ H _ I h) ?_)
  rintro xv s1 ⟨v, H1, I1, r1, a, xs, k, rfl, ha, hz, step, q⟩
  cases r1
  obtain ⟨its, rv, p, _⟩ := I1.tuple (SqT.of ha)
  have ht : s1.heap.IsTuple a its.toArray := p
  refine wpAny_pyIter_tuple ht ?_
  -- the iterator, the set, the block's names
  generalize hit : s1.heap.objs.size = it
  generalize hs2 : ({ s1 with heap := s1.heap.push { cls := .type "tuple_iterator", data := .fields #[.ref a, .int 0 0] } } : Shared) = s2
  have e2 : s2.heap = s1.heap.push { cls := .type "tuple_iterator", data := .fields #[.ref a, .int 0 0] } := by rw [← hs2]
  have I2 : Inv X pins σ H1 s2 := by rw [← hs2]; exact I1.kept (t' := s1.toks) fun b o e => Heap.get?_push_of_some _ e
  have T := turn_tuple (P := X.prog) (w := X.w) (K := X.K) (tg := .Name x px) a it
  have t2 : s2.heap.IsTupleIter it a 0 := by rw [e2, ← hit]; exact ⟨_, Heap.get?_push_size _ rfl, rfl, rfl⟩
  have f2 : FpOk X pins H1 it := I1.fpOk (Nat.le_of_eq hit) (I1.hok.fresh (Nat.le_of_eq hit))
  have lt2 : it < s2.heap.objs.size := by obtain ⟨_, z, _⟩ := id t2; exact Heap.lt_size z
  refine PpSet.newSet_ok (newEnv_comp ?_)
  generalize hD : s2.heap.objs.size = D at lt2 ⊢
  have nD : H1 D = none := I2.hok.fresh (Nat.le_of_eq hD)
  generalize hs3 : ({ s2 with heap := s2.heap.push { cls := .type "set", dict := none, data := .set #[] 0 (.fresh 0 0 (!X.w.params.followText "set-order")) } } : Shared) = s3
  have e3 : s3.heap = s2.heap.push { cls := .type "set", dict := none, data := .set #[] 0 (.fresh 0 0 (!X.w.params.followText "set-order")) } := by rw [← hs3]
  have z1 : (fun _ => false) = one k 0 := by funext j; rfl
  have I3 : Inv X pins σ (upd H1 D (SetO X.w D (one k 0) 0)) s3 := by
    have nw := setR_fresh (h := s2.heap) X.w
    rw [z1, hD] at nw
    rw [← hs3]
    exact I2.laid (t' := s2.toks) (fun b o e => Heap.get?_push_of_some _ e) (Nat.le_of_eq hD) (setO_new nw)
  have f3 : ∀ b ∈ [it], FpOk X pins (upd H1 D (SetO X.w D (one k 0) 0)) b ∧ b < s3.heap.objs.size := fun b hb => by
    obtain rfl := List.mem_singleton.mp hb
    refine ⟨⟨?_, f2.2⟩, by rw [e3, Heap.size_push, hD]; exact Nat.lt_succ_of_lt lt2⟩
    rw [upd_ne (Nat.ne_of_lt lt2)]
    exact f2.1
  have t3 : s3.heap.IsTupleIter it a 0 := t2.at fun o e => by rw [e3]; exact Heap.get?_push_of_some _ e
  have I4 := block_start I3 ok hN f3
  have pg := hg s3 (upd H1 D (SetO X.w D (one k 0) 0)) s3.heap.objs.size (cellsFrom (s3.heap.objs.size + 1) scope.names (cloFrom X.env.cells scope.names [])) [it]
  have pe := he s3 (upd H1 D (SetO X.w D (one k 0) 0)) s3.heap.objs.size (cellsFrom (s3.heap.objs.size + 1) scope.names (cloFrom X.env.cells scope.names [])) [it]
  generalize hce : compEnvC scope (cellsFrom (s3.heap.objs.size + 1) scope.names (cloFrom X.env.cells scope.names [])) s3.heap.objs.size X.env = ce at I4 pg pe
  have cL : ce.locals = s3.heap.objs.size := by subst hce; rfl
  have x3 : Ex H1 (upd H1 D (SetO X.w D (one k 0) 0)) := Ex.new nD
  have dm : (upd H1 D (SetO X.w D (one k 0) 0)) D = some (SetO X.w D (one k 0) 0) := upd_same
  generalize hH3 : upd H1 D (SetO X.w D (one k 0) 0) = H3 at I3 I4 pg pe f3 x3 dm
  generalize hs4 : ({ s3 with heap := pushCells (s3.heap.push { cls := .type "dict", data := .dict #[] }) scope.names } : Shared) = s4 at I4
  have t4 : s4.heap.IsTupleIter it a 0 := t3.at fun o e => by rw [← hs4]; exact pushCells_keeps _ _ _ _ (Heap.get?_push_of_some _ e)
  have own : ∀ {σ' : L2.St} {H' : Hp} {s' : Shared}, Inv (X.blk s3 H3 scope ce [it]) [] σ' H' s' → H' it = none → ∀ b ∈ [it], FpOk (X.blk s3 H3 scope ce [it]) [] H' b := by
    intro σ' H' s' J n b hb
    have eb := List.mem_singleton.mp hb
    exact ⟨by rw [eb]; exact n, (J.ok.exf b hb).1, J.ok.exfs b hb, .inl hb, fun y c e => (J.ok.exf b hb).2 y c e, fun p hp => absurd (show p ∈ ([] : List (Addr × Obj)) ++ [] from hp) (by simp)⟩
  show codeAny _ _ (.compStart (.SetComp elt [⟨.Name x px, iter, [], 0⟩] scope pos) 0 (.ref it) (.ref D) (compEnvC scope (cellsFrom (s3.heap.objs.size + 1) scope.names (cloFrom X.env.cells scope.names [])) s3.heap.objs.size X.env)) (compPost (model X.prog X.w) X.A X.xe use Qf (.ref D) s3.heap.objs.size) _
  rw [hce]
  have loop : codeAny (model X.prog X.w) X.A (.compLoop (.SetComp elt [⟨.Name x px, iter, [], 0⟩] scope pos) 0 (.ref it) (.ref D) ce) (compPost (model X.prog X.w) X.A X.xe use Qf (.ref D) s3.heap.objs.size) s4 := by
    refine PpSet.compLoopS_any (fun m s' => ∃ (i : Nat) (H' : Hp), m = xs.length - i ∧ i ≤ xs.length ∧ Inv (X.blk s3 H3 scope ce [it]) [] (wipe σ [j]) H' s' ∧ s'.heap.IsTupleIter it a i ∧ H' it = none ∧ Ex H1 H' ∧ H' D = some (SetO X.w D (one k i) (if i = 0 then 0 else 1))) ?_ xs.length
      ⟨0, H3, rfl, Nat.zero_le _, I4, t4, (f3 it List.mem_cons_self).1.1, x3, dm⟩
    rintro m s5 ⟨i, H5, rfl, hi, I5, t5, n5, x5, d5⟩
    have ha5 := x5.tup ha
    by_cases hlt : i < xs.length
    · refine thnF (T.item (X.blk s3 H3 scope ce [it]) rfl rfl rfl hc i [] s5 _ H5 (fun _ _ => False) I5 (own I5 n5) t5 ⟨xs, xs[i], SqT.of ha5, by simp [hlt]⟩) ?_
      rintro _ s6 ⟨u, rfl, h6⟩
      refine thnF h6 fun _ s7 ⟨y, H7, I7, r7, ⟨eH, hy⟩, t7, n7⟩ => ?_
      subst eH
      have hy' := hy xs (SqT.of ha5)
      have I7' := I7.pinned (own I7 n5) (T.obj _ _ t7)
      obtain ⟨w7, st7⟩ := step i y H7 hy' x5
      refine thnF (pg.run _ s7 _ H7 y u (fun σ2 H2 => σ2 = (wipe σ [j]).set j (some y) ∧ H2 = H7) I7' r7 ⟨rfl, rfl⟩) ?_
      rintro _ s8 ⟨σ8, H8, I8, rfl, rfl⟩
      refine wpAny_tests_nil ?_
      show wpAny _ _ _ _ _ _
      refine thnF (pe.run _ s8 _ H8 (fun v H' => v = .int k ∧ Ex H8 H') I8 (st7 _ fun H2 e => ⟨rfl, e⟩)) ?_
      rintro z s9 ⟨yv, H9, I9, r9, rfl, x9⟩
      have d9 : H9 D = some (SetO X.w D (one k i) (if i = 0 then 0 else 1)) := x9.ext d5
      refine thnF (mt_sadd (X := X.blk s3 H3 scope ce [it]) _ s9 _ H9 (.ref D) [.int k] (.ref D) [z] (fun _ H' => H' = upd H9 D (SetO X.w D (one k (i + 1)) (if i + 1 = 0 then 0 else 1))) I9 rfl (.cons r9 .nil) ⟨D, k, one k i, _, rfl, rfl, d9, ?_, ?_⟩) ?_
      · have : (if i = 0 then 0 else 1) ≤ 1 := by split <;> omega
        exact Nat.lt_of_le_of_lt (Nat.add_le_add_right this 1) (by decide)
      · show upd H9 D _ = upd H9 D _
        rw [one_next, one_size]
      rintro _ s10 ⟨_, H10, I10, _, rfl⟩
      have pin' : ∀ o, s7.heap.get? it = some o → s10.heap.get? it = some o ∧ upd H9 D (SetO X.w D (one k (i + 1)) (if i + 1 = 0 then 0 else 1)) it = none := fun o e =>
        have z := I10.pin (it, o) (List.mem_append_right _ (List.mem_append_right _ (mem_pinsAt List.mem_cons_self e)))
        ⟨z.1, z.2.1⟩
      refine ⟨xs.length - (i + 1), by omega, i + 1, _, rfl, hlt, (I10.unpinned (pins := [])).weak (by rw [List.length_set]) (fun l v e => ?_), t7.at fun o e => (pin' o e).1, ?_, ?_, upd_same⟩
      · rw [← w7] at e
        exact (wipe_some e).1
      · obtain ⟨o, e, _⟩ := T.obj _ _ t7 it List.mem_cons_self
        exact (pin' o e).2
      · exact Ex.mut (x5.trans x9) nD
    · have ei : i = xs.length := by omega
      refine thnF (T.done (X.blk s3 H3 scope ce [it]) rfl rfl rfl hc i [] s5 _ H5 (fun _ _ => False) I5 (own I5 n5) t5 ⟨xs, SqT.of ha5, by omega⟩) ?_
      rintro _ s6 ⟨rfl, I6⟩
      have I7 : Inv X pins σ H5 s6 := I3.call' (ch := [it]) I6.os I6.base I6.hok I6.bare fun b hb => ⟨(f3 b hb).1.2.2.2.1, (f3 b hb).1.2.1, (f3 b hb).1.2.2.2.2.1, (f3 b hb).1.2.2.2.2.2⟩
      obtain ⟨mm, hn, _⟩ := I6.loc
      have hn' : s6.heap.Ns ce.locals mm := hn
      have nC : H5 ce.locals = none := I6.free
      rw [cL] at hn' nC
      refine fin D s3.heap.objs.size s6 mm H5 I7 (q D H5 nD x5 ?_) hn' (I3.fpOk (Nat.le_refl _) nC)
      rw [d5, ei]
  exact PpSet.codeAny_compStart_set loop (T.self X.A 0 _ _ _ t4 loop)
theorem pe_set1 {elt iter : Expr} {x : Str} {px pos : Pos} {scope : Scope} {j : Nat} {ti te : TE} (hc : X.calm = true) (hN : X.N.Nodup) (hi : PE X iter ti) (ok : BlkOk X.N X.env.scope scope [(x, j)])
    (hg : ∀ (s : Shared) (H : Hp) (C : Addr) (cl : List (Str × Addr)) (fp : List Addr), PG (X.blk s H scope (compEnvC scope cl C X.env) fp) (.Name x px) (gName j))
    (he : ∀ (s : Shared) (H : Hp) (C : Addr) (cl : List (Str × Addr)) (fp : List Addr), PE (X.blk s H scope (compEnvC scope cl C X.env) fp) elt te) (hs : ∀ v, foldedSetIterable iter X.env v = pure v := by intro _; rfl) :
    PE X (.SetComp elt [⟨.Name x px, iter, [], 0⟩] scope pos) (tSet1 X.w ti j te [j]) := by
  refine ⟨fun pins s σ H Q I h => ?_⟩
  rw [PpSet.eval_SetComp]
  refine set1_core I hc hN hi ok hg he hs h fun D C s' m H' I' q hn ⟨g0, g1, g2, g3, g4, g5⟩ => ⟨m, hn, fun h'' sb => ?_⟩
  exact ⟨.ref D, H', I'.turned (t' := s'.toks) (fun b o hb e => (sb.2 b hb).trans e) g0 g1 g3 g4 g5, rfl, q⟩
/-- name = {..}, the name a local -/
theorem ps_set1 {i : Nat} {y : Str} {py spos : Pos} {elt iter : Expr} {x : Str} {px pos : Pos} {scope : Scope} {j : Nat} {ti te : TE} (hc : X.calm = true) (hN : X.N.Nodup) (hy : X.N[i]? = some y) (hl : X.env.scope.names.lookup y = some .local)
    (sw : swapsWith (.SetComp elt [⟨.Name x px, iter, [], 0⟩] scope pos) (some (.Name y py)) spos.line X.env = pure true) (hi : PE X iter ti) (ok : BlkOk X.N X.env.scope scope [(x, j)])
    (hg : ∀ (s : Shared) (H : Hp) (C : Addr) (cl : List (Str × Addr)) (fp : List Addr), PG (X.blk s H scope (compEnvC scope cl C X.env) fp) (.Name x px) (gName j))
    (he : ∀ (s : Shared) (H : Hp) (C : Addr) (cl : List (Str × Addr)) (fp : List Addr), PE (X.blk s H scope (compEnvC scope cl C X.env) fp) elt te) (hs : ∀ v, foldedSetIterable iter X.env v = pure v := by intro _; rfl) :
    PS X (.Assign [.Name y py] (.SetComp elt [⟨.Name x px, iter, [], 0⟩] scope pos) spos) (tAsg (tSet1 X.w ti j te [j]) (gName i)) := by
  refine ⟨fun pins s σ H D I h => ?_⟩
  rw [exec_Assign_Name_used _ _ _ _ sw]
  refine wpAny_bind (wpAny_standAt (wpAny_bind ?_))
  show wpAny _ X.A (comprehension (.SetComp elt [⟨.Name x px, iter, [], 0⟩] scope pos) scope X.env (firstIterPos [⟨.Name x px, iter, [], 0⟩] pos) (newSet (.type "set")) false (eval iter X.env) (some (assign (.Name y py) X.env)) >>= _) _ _ s
  have h' : tSet1 X.w ti j te [j] σ H (fun v H1 => gName i v σ H1 D.nx) := h
  refine wpAny_bind (thn (set1_core (Qf := fun _ s' => SP X pins D .next s') I hc hN hi ok hg he hs h' ?_) fun _ s' z => wpAny_pure (wpAny_pure z))
  intro L C s' m H' I' q hn ⟨g0, g1, g2, g3, g4, g5⟩
  show wpAny _ _ (assign (.Name y py) X.env (.ref L)) _ _ _
  refine wpAny_assign_Name (store_ok2 (v := V.ref L) I' hN hy (.inl hl) rfl (fun s2 I2 ⟨a, sb, ha⟩ => ?_) (.inr hl))
  have nC : C ≠ a := ha.elim (fun z => by rw [z]; exact g1) fun z e => g4 y a z e.symm
  exact ⟨m, hn.sameBut sb nC, fun h3 sb3 => ⟨_, H', I2.turned (t' := s2.toks) (fun b o hb e => (sb3.2 b hb).trans e) g0 g1 g3 g4 g5, q⟩⟩
/-! len of it -/
def rLenSet (w : World) : List V → Hp → VK → Prop := fun vs H Q => ∃ (a : Addr) (S : Int → Bool) (n : Nat), vs = [.ref a] ∧ H a = some (SetO w a S n) ∧ n ≤ 1000 ∧ Q (.int (n : Int)) H
theorem call_lenSet : CallR X (.builtin "len") (rLenSet X.w) := by
  intro pins s σ H vs us Q I r h
  obtain ⟨a, S, n, rfl, ha, hn, q⟩ := h
  rw [Vals.ref1 r]
  obtain ⟨o, es, ep, t, ho, hex, hd, _, _, _, _, hf, e, _⟩ := setO_get I ha
  refine call_len_set ho hex hd hf (by rw [e]; omega) ⟨.int n, H, I.tok _, ⟨_, by rw [e]⟩, q⟩
end
end K7

set_option Elab.async false
set_option linter.all false
set_option maxRecDepth 100000
set_option maxHeartbeats 4000000
/-! rules whose reading names no written part (for use within a comprehension). -/
namespace K7
open PySem PySem.Spec PyProof.Rows L2
section
variable {X : Cx}
def gT (n : Nat) (t : TGs) : TG := fun v σ H Q => ∃ a xs, v = .ref a ∧ H a = some (.tup xs) ∧ xs.length = n ∧ t xs σ H Q
theorem pg_T {es : List Expr} {k : Nat} {t : TGs} {n : Nat} {pos : Pos} (hc : X.calm = true) (h : PGs X es t) (hn : (assignEach es X.env).length = n := by rfl) (hst : (assignEach es X.env).findIdx? (·.1) = none := by rfl) : PG X (.Tuple es k pos) (gT n t) :=
  ⟨fun pins s σ H v u Q I r ⟨a, xs, e1, hq, hl, hw⟩ => (pg_tup (pos := pos) (k := k) hc h hn hst).run pins s σ H v u Q I r ⟨a, xs, e1, SqT.of hq, hl, hw⟩⟩
def rIT : R2 := fun x y H Q => ∃ p xs i v, x = .ref p ∧ y = .int i ∧ H p = some (.tup xs) ∧ atI xs i = some v ∧ Q v H
def rIL : R2 := fun x y H Q => ∃ p xs i v, x = .ref p ∧ y = .int i ∧ H p = some (.lst xs) ∧ atI xs i = some v ∧ Q v H
theorem ix_T : IxR X rIT := fun va sl pins s σ H x y v u Q I rx ry ⟨p, xs, i, z, a, b, c, d, q⟩ hs => ix_tup va sl pins s σ H x y v u Q I rx ry ⟨p, xs, i, z, a, b, SqT.of c, d, q⟩ hs
theorem ix_L : IxR X rIL := fun va sl pins s σ H x y v u Q I rx ry ⟨p, xs, i, z, a, b, c, d, q⟩ hs => ix_list va sl pins s σ H x y v u Q I rx ry ⟨p, xs, i, z, a, b, SqL.of c, d, q⟩ hs
def ItL (a : Addr) : It where
  go := fun i H => ∃ (xs : List V) (x : V), H a = some (.lst xs) ∧ xs[i]? = some x
  yld := fun i H x H' => H' = H ∧ ∀ xs, H a = some (.lst xs) → xs[i]? = some x
  stop := fun i H => ∃ xs : List V, H a = some (.lst xs) ∧ xs.length ≤ i
theorem turn_L {P : Program} {w : World} {K : PySem.W.Frag} {tg : Expr} (a it : Addr) : Turn P w K tg (ItL a) [it] it (fun i h => h.IsListIter it a i) :=
  have T := turn_list (P := P) (w := w) (K := K) (tg := tg) a it
  { mem := T.mem, obj := T.obj, keep := T.keep, self := T.self
    item := fun X hP hw hK hc i pins s σ H E I hf st ⟨xs, x, h1, h2⟩ => wpAny_mono (T.item X hP hw hK hc i pins s σ H E I hf st ⟨xs, x, SqL.of h1, h2⟩)
      (fun r s1 ⟨u, e, q⟩ => ⟨u, e, wpAny_mono q (fun _ s2 ⟨y, H', J, ry, ⟨e1, e2⟩, t, n⟩ => ⟨y, H', J, ry, ⟨e1, fun ys hy => e2 ys (SqL.of hy)⟩, t, n⟩) fun _ _ z => z⟩) fun _ _ z => z
    done := fun X hP hw hK hc i pins s σ H E I hf st ⟨xs, h1, h2⟩ => T.done X hP hw hK hc i pins s σ H E I hf st ⟨xs, SqL.of h1, h2⟩ }
def iL (tl : TE) : TI := fun σ H R => tl σ H fun x H1 => ∃ a xs, x = .ref a ∧ H1 a = some (.lst xs) ∧ R (ItL a) H1
theorem pi_L {tg l : Expr} {tl : TE} (hl : PE X l tl) : PI X tg l (iL tl) := by
  refine ⟨fun pins s σ H R I h => ?_⟩
  refine thn (hl.run pins s σ H _ I h) ?_
  rintro v s1 ⟨x, H1, I1, r1, a, xs, rfl, hq, q⟩
  cases r1
  obtain ⟨its, rv, p, hz⟩ := I1.list (SqL.of hq)
  refine wpAny_pyIter_list p.isList ?_
  refine ⟨s1.heap.objs.size, [s1.heap.objs.size], _, _, H1, rfl, I1.kept (t' := s1.toks) fun b o e => Heap.get?_push_of_some _ e, turn_L a _, ⟨_, Heap.get?_push_size _ rfl, rfl, rfl⟩, fun b hb => ?_, q⟩
  rw [List.mem_singleton.mp hb]
  exact I1.fpOk (Nat.le_refl _) (I1.hok.fresh (Nat.le_refl _))
theorem walk_L {a : Addr} {xs : List V} : Walk (ItL a) xs.length (fun H => H a = some (.lst xs)) (YAt xs) :=
  ⟨fun i _ hi q => ⟨xs, xs[i], q, by simp [hi]⟩, fun _ q => ⟨xs, q, Nat.le_refl _⟩, fun _ _ _ _ _ q y => ⟨y.1, y.2 xs q⟩⟩
def rMx : List V → Hp → VK → Prop := fun vs H Q => ∃ (a : Addr) (ns : List Int), vs = [V.ref a] ∧ H a = some (.lst (iv ns)) ∧ 0 < ns.length ∧ ∀ m, m ∈ ns → (∀ y, y ∈ ns → y ≤ m) → Q (.int m) H
theorem cr_mx (hc : X.calm = true) : CallR X (.builtin "max") rMx := fun pins s σ H vs us Q I r ⟨a, ns, e, h, l, q⟩ => cr_max hc pins s σ H vs us Q I r ⟨a, ns, e, SqL.of h, l, q⟩
def rSm : List V → Hp → VK → Prop := fun vs H Q => ∃ (a : Addr) (ns : List Int), vs = [V.ref a] ∧ H a = some (.lst (iv ns)) ∧ Q (.int ns.sum) H
theorem cr_sm (hc : X.calm = true) : CallR X (.builtin "sum") rSm := fun pins s σ H vs us Q I r ⟨a, ns, e, h, q⟩ => cr_sum hc pins s σ H vs us Q I r ⟨a, ns, e, SqL.of h, q⟩
def rLn : List V → Hp → VK → Prop := fun vs H Q => ∃ (p : Addr) (xs : List V), vs = [.ref p] ∧ (H p = some (.lst xs) ∨ H p = some (.tup xs)) ∧ Q (.int (xs.length : Int)) H
theorem cr_len : CallR X (.builtin "len") rLn := fun pins s σ H vs us Q I r ⟨p, xs, e, h, q⟩ => call_len_seq pins s σ H vs us Q I r ⟨p, xs, e, h.imp SqL.of SqT.of, q⟩
end
theorem gpT {T : Addr} {x y : V} {i j : Nat} {σ : L2.St} {H : Hp} {Q : L2.St → Hp → Prop} (hT : H T = some (.tup [x, y])) (q : Q ((σ.set i (some x)).set j (some y)) H) : gT 2 (gCons (gName i) (gCons (gName j) gNil)) (.ref T) σ H Q :=
  ⟨T, _, rfl, hT, rfl, x, [y], rfl, y, [], rfl, rfl, q⟩
theorem gmT (i j : Nat) : ∀ x σ H Q Q', (∀ σ2 H2, Q σ2 H2 → Q' σ2 H2) → gT 2 (gCons (gName i) (gCons (gName j) gNil)) x σ H Q → gT 2 (gCons (gName i) (gCons (gName j) gNil)) x σ H Q' := by
  rintro x σ H Q Q' h ⟨a, xs, e1, e2, e3, v, r, e4, u, r', e5, e6, q⟩
  exact ⟨a, xs, e1, e2, e3, v, r, e4, u, r', e5, e6, h _ _ q⟩
end K7

set_option Elab.async false
set_option linter.all false
set_option maxRecDepth 100000
set_option maxHeartbeats 4000000
/-! == of tuples and lists of numbers, of lists of such tuples. -/
namespace K7
open PySem PySem.Spec PyProof.Rows L2
section
variable {K : PySem.W.Frag} {H : Hp} {X : Cx}
theorem dp_ints : ∀ ns : List Int, DpAll K H (iv ns) (ns.map PyData.int)
  | [] => .nil
  | n :: r => .cons (.int n) (dp_ints r)
theorem lay_ints : ∀ ns : List Int, PyData.canLayAll0 (ns.map PyData.int) = true
  | [] => rfl
  | n :: r => by
    rw [List.map_cons]
    show (PyData.canLay0 (.int n) && PyData.canLayAll0 (r.map PyData.int)) = true
    rw [lay_ints r]
    rfl
theorem dep_ints : ∀ ns : List Int, PyData.depthAll (ns.map PyData.int) = 0
  | [] => rfl
  | n :: r => by
    rw [List.map_cons]
    show max (PyData.depth (.int n)) (PyData.depthAll (r.map .int)) = 0
    rw [dep_ints r]
    rfl
theorem shaped_T (ns : List Int) : SeqAt.shaped (.tuple (ns.map PyData.int)) = true := by
  have e1 : PyData.canLay0 (.tuple (ns.map PyData.int)) = true := lay_ints ns
  have e2 : PyData.depth (.tuple (ns.map PyData.int)) ≤ 64 := by
    show PyData.depthAll (ns.map .int) + 1 ≤ 64
    rw [dep_ints]
    decide
  unfold SeqAt.shaped
  rw [e1, decide_eq_true e2]
  rfl
theorem shaped_L (ns : List Int) : SeqAt.shaped (.list (ns.map PyData.int)) = true := shaped_T ns
theorem eqv_T (ns ms : List Int) : PyData.eqv (.tuple (ns.map PyData.int)) (.tuple (ms.map PyData.int)) = decide (ns = ms) := PySem.W.ked_eqvAll ns ms
theorem eqv_L (ns ms : List Int) : PyData.eqv (.list (ns.map PyData.int)) (.list (ms.map PyData.int)) = decide (ns = ms) := PySem.W.ked_eqvAll ns ms
theorem dp_T {v : V} {ns : List Int} (h : IsT H v (iv ns)) : Dp K H v (.tuple (ns.map PyData.int)) := by
  obtain ⟨p, rfl, hp⟩ := h
  exact .tup (SqT.of hp) (dp_ints ns)
theorem dp_L {v : V} {ns : List Int} (h : IsL H v (iv ns)) : Dp K H v (.list (ns.map PyData.int)) := by
  obtain ⟨p, rfl, hp⟩ := h
  exact .lst (SqL.of hp) (dp_ints ns)
def rEqT (g : Bool → Bool) : R2 := fun x y H Q => ∃ ns ms, IsT H x (iv ns) ∧ IsT H y (iv ms) ∧ Q (.bl (g (decide (ns = ms)))) H
def rEqL (g : Bool → Bool) : R2 := fun x y H Q => ∃ ns ms, IsL H x (iv ns) ∧ IsL H y (iv ms) ∧ Q (.bl (g (decide (ns = ms)))) H
theorem op_eqT (hu : X.A.units + 64 < cLine) : OpR X (compareOp .Eq) (rEqT id) := fun pins s σ H x y v u Q I rx ry ⟨ns, ms, a, b, q⟩ =>
  op_eqD hu pins s σ H x y v u Q I rx ry ⟨_, _, dp_T a, dp_T b, shaped_T ns, shaped_T ms, by rw [eqv_T]; exact q⟩
theorem op_neT (hu : X.A.units + 64 < cLine) : OpR X (compareOp .NotEq) (rEqT not) := fun pins s σ H x y v u Q I rx ry ⟨ns, ms, a, b, q⟩ =>
  op_neD hu pins s σ H x y v u Q I rx ry ⟨_, _, dp_T a, dp_T b, shaped_T ns, shaped_T ms, by rw [eqv_T]; exact q⟩
theorem op_eqL (hu : X.A.units + 64 < cLine) : OpR X (compareOp .Eq) (rEqL id) := fun pins s σ H x y v u Q I rx ry ⟨ns, ms, a, b, q⟩ =>
  op_eqD hu pins s σ H x y v u Q I rx ry ⟨_, _, dp_L a, dp_L b, shaped_L ns, shaped_L ms, by rw [eqv_L]; exact q⟩
theorem op_neL (hu : X.A.units + 64 < cLine) : OpR X (compareOp .NotEq) (rEqL not) := fun pins s σ H x y v u Q I rx ry ⟨ns, ms, a, b, q⟩ =>
  op_neD hu pins s σ H x y v u Q I rx ry ⟨_, _, dp_L a, dp_L b, shaped_L ns, shaped_L ms, by rw [eqv_L]; exact q⟩
/-! lists of tuples of numbers -/
def pdT (ns : List Int) : PyData := .tuple (ns.map PyData.int)
theorem dp_all : ∀ {xs : List V} {nss : List (List Int)}, Each (fun v ns => IsT H v (iv ns)) xs nss → DpAll K H xs (nss.map pdT)
  | [], [], _ => .nil
  | [], _ :: _, h => by have := h.1; simp at this
  | _ :: _, [], h => by have := h.1; simp at this
  | x :: xs, n :: r, h => .cons (dp_T (h.2 0 x n rfl rfl)) (dp_all ⟨by have := h.1; simpa using this, fun i y d a b => h.2 (i + 1) y d a b⟩)
theorem eqv_LT : ∀ nss mss : List (List Int), PyData.eqvAll (nss.map pdT) (mss.map pdT) = decide (nss = mss)
  | [], [] => rfl
  | [], _ :: _ => rfl
  | _ :: _, [] => rfl
  | n :: r, m :: t => by
    rw [List.map_cons, List.map_cons]
    show (PyData.eqv (pdT n) (pdT m) && PyData.eqvAll (r.map pdT) (t.map pdT)) = _
    rw [show PyData.eqv (pdT n) (pdT m) = decide (n = m) from eqv_T n m, eqv_LT r t, Bool.eq_iff_iff]
    simp
theorem lay_LT : ∀ nss : List (List Int), PyData.canLayAll0 (nss.map pdT) = true
  | [] => rfl
  | n :: r => by
    rw [List.map_cons]
    show (PyData.canLayAll0 (n.map PyData.int) && PyData.canLayAll0 (r.map pdT)) = true
    rw [lay_ints n, lay_LT r]
    rfl
theorem dep_LT : ∀ nss : List (List Int), PyData.depthAll (nss.map pdT) ≤ 1
  | [] => Nat.zero_le _
  | n :: r => by
    rw [List.map_cons]
    show max (PyData.depthAll (n.map .int) + 1) (PyData.depthAll (r.map pdT)) ≤ 1
    rw [dep_ints n]
    have := dep_LT r
    omega
theorem shaped_LT (nss : List (List Int)) : SeqAt.shaped (.list (nss.map pdT)) = true := by
  have e1 : PyData.canLay0 (.list (nss.map pdT)) = true := lay_LT nss
  have e2 : PyData.depth (.list (nss.map pdT)) ≤ 64 := by
    show PyData.depthAll (nss.map pdT) + 1 ≤ 64
    have := dep_LT nss
    omega
  unfold SeqAt.shaped
  rw [e1, decide_eq_true e2]
  rfl
def rEqLT : R2 := fun x y H Q => ∃ xs ys nss mss, IsL H x xs ∧ IsL H y ys ∧ Each (fun v ns => IsT H v (iv ns)) xs nss ∧ Each (fun v ns => IsT H v (iv ns)) ys mss ∧ Q (.bl (decide (nss = mss))) H
theorem op_eqLT (hu : X.A.units + 64 < cLine) : OpR X (compareOp .Eq) rEqLT := fun pins s σ H x y v u Q I rx ry ⟨xs, ys, nss, mss, ⟨p, e1, hp⟩, ⟨r, e2, hr⟩, ex, ey, q⟩ => by
  subst e1 e2
  exact op_eqD hu pins s σ H _ _ v u Q I rx ry ⟨.list (nss.map pdT), .list (mss.map pdT), .lst (SqL.of hp) (dp_all ex), .lst (SqL.of hr) (dp_all ey), shaped_LT nss, shaped_LT mss, by
    rw [show PyData.eqv (.list (nss.map pdT)) (.list (mss.map pdT)) = decide (nss = mss) from eqv_LT nss mss]
    exact q⟩
end
end K7

set_option Elab.async false
set_option linter.all false
set_option maxRecDepth 100000
set_option maxHeartbeats 4000000
/-! next(x for x in range(k) if (x * r[1] - p) % r[0] == 0, None), r and p the def's own. -/
namespace K7
open PySem PySem.Spec PyProof.Rows L2
section
variable {prog : Program} {w : World} {A : Around} {E : Value → Shared → Prop} {s : Shared}
theorem call_next2 {g : Addr} {d : Value} {Q : Value → Shared → Prop} (hT : s.TypeIs (.ref g) "generator")
    (h : wpAny (model prog w) A.in1 (pyNext (.ref g)) (fun o s' => Q (o.getD d) s') E s) : wpAny (model prog w) A (call (.builtin "next") [.ref g, d]) Q E s := by
  refine Calls.call_function_entry (by decide +kernel) (by decide +kernel) PySem.W.kdk_entry_next (PySem.W.kdk_args_next2 _ _) ?_
  unfold Builtin.«next»
  refine wpAny_bind (m := someArgs "next" 1 2 _) (wpAny_of_eq (a := [Value.ref g, d]) (by first | rfl | kernel_rfl!) ?_)
  dsimp only
  refine wpAny_bind (wpAny_specialOf (name := Str.ofString "__next__") hT PySem.slot_gen_next.lookup ?_)
  refine wpAny_ite_split (fun hab => absurd hab (by decide)) (fun _ => ?_)
  refine wpAny_bind (wpAny_mono h (fun o s' q => ?_) fun _ _ z => z)
  cases o with
  | some v => exact wpAny_pure ⟨_, rfl, q⟩
  | none => exact wpAny_pure ⟨_, rfl, q⟩
/-- the test -/
theorem test_rest {cenv : Env} {m₂ : Str → Option Value} {x xr xp : Str} {i : Int} {t t1 t2 t3 : Tok} {cr cp p : Addr} {n m y : Int} {j1 j2 j3 : Nat} {p1 p2 p3 p4 p5 p6 p7 p8 p9 p10 p11 p12 p13 : Pos}
    (hk : cenv.scope.kind = .function) (hx : cenv.scope.names.lookup x = some .local) (hr : cenv.scope.names.lookup xr = some .free) (hp : cenv.scope.names.lookup xp = some .free)
    (lr : cenv.cells.lookup xr = some cr) (lp : cenv.cells.lookup xp = some cp) (ns : s.heap.Ns cenv.locals m₂) (hm : m₂ x = some (.int i t))
    (c1 : s.heap.IsCell cr (some (.ref p))) (c2 : s.heap.IsCell cp (some (.int y t3))) (ht : IsTup s.heap p #[.int n t1, .int m t2]) (hn : n ≠ 0) (hb : CMul i m)
    (d1 : (x == ("__debug__" : Str)) = false) (d2 : (xr == ("__debug__" : Str)) = false) (d3 : (xp == ("__debug__" : Str)) = false) (e2 : (xr == ("__classdict__" : Str)) = false) (e3 : (xp == ("__classdict__" : Str)) = false) :
    wpAny (model prog w) A (isTrue (.Compare (.BinOp (.BinOp (.BinOp (.Name x p1) .Mult (.Subscript (.Name xr p2) (.Constant (.int 1) j1 p3) p4) p5) .Sub (.Name xp p6) p7) .Mod (.Subscript (.Name xr p8) (.Constant (.int 0) j2 p9) p10) p11) [.Eq] [.Constant (.int 0) j3 p12] p13) cenv
      (eval (.Compare (.BinOp (.BinOp (.BinOp (.Name x p1) .Mult (.Subscript (.Name xr p2) (.Constant (.int 1) j1 p3) p4) p5) .Sub (.Name xp p6) p7) .Mod (.Subscript (.Name xr p8) (.Constant (.int 0) j2 p9) p10) p11) [.Eq] [.Constant (.int 0) j3 p12] p13) cenv))
      (fun v s₃ => v = decide ((i * m - y).fmod n = 0) ∧ Keeps s s₃) E s := by
  refine wpAny_isTrue_Compare1 ?_
  refine wpAny_BinOp (wpAny_BinOp (wpAny_BinOp ?_))
  refine wpAny_Name (wpAny_loadName_local hk hx ns hm ?_) d1
  refine Subscript_Constant (wpAny_Name (wpAny_loadName_free hk hr lr c1 ?_ e2) d2)
  refine wpAny_Constant_int ⟨"tuple", _, slot_tuple_getitem.lookup, IsTup.typeIs ht, getItem_tuple (j := 1) ht (by decide) (by decide) rfl rfl ?_⟩
  refine mul_int ?_ hb.ok
  refine wpAny_Name (wpAny_loadName_free hk hp lp c2 ?_ e3) d3
  refine sub_int' ?_
  refine Subscript_Constant (wpAny_Name (wpAny_loadName_free hk hr lr c1 ?_ e2) d2)
  refine wpAny_Constant_int ⟨"tuple", _, slot_tuple_getitem.lookup, IsTup.typeIs ht, getItem_tuple (j := 0) ht (by decide) (by decide) rfl rfl ?_⟩
  refine mod_int' hn ?_
  refine wpAny_Constant_int ?_
  refine PySem.P.eq_int ?_
  exact wpAny_truthy_bool ⟨rfl, GxR.keeps_tok _ _⟩
end
section
variable {X : Cx} {pins : List (Addr × Obj)} {σ : L2.St} {H : Hp} {s : Shared}
/-- the walked generator -/
def ReadyR (X : Cx) (pins : List (Addr × Obj)) (σ : L2.St) (H1 : Hp) (P : Addr) (js : List Nat) (g : Addr) (s5 : Shared) : Prop :=
  ∃ (fp wr : List Addr) (G : Array GenState → Array GenState → Prop) (F : Nat → Value → Prop) (St : Nat → Shared → Prop),
    WalksS X.prog X.w X.A.in1 g fp wr G js.length F St ∧ St 0 s5 ∧ s5.TypeIs (.ref g) "generator" ∧ (∀ j v, F j v → ∃ (i : Nat) (t : Tok), js[j]? = some i ∧ v = .int (i : Nat) t) ∧
    ∀ s', Moved wr G s5 s' → ∃ H2, GxR.Tabbed P H1 H2 ∧ Inv X pins σ H2 s'
theorem gen_rng {c P : Addr} {ord tst : Expr} {x : Str} {px pe rp rpos gpos : Pos} {scope : Scope} {ta : TA} {k : Nat} {Q' : Value → Shared → Prop} {R Z : Int → Hp → Prop} {pz : Nat → Bool}
    (hr : Room k X.A) (TB : GxR.TabB X.base X.mg c P) (hcode : X.env.code = .ref c) (S : GxR.GenS X.env scope x) (hg : Gl X "range") (hm : X.mg "range" = none) (ha : PA X [ord] ta)
    (I : Inv X pins σ H s) (h : ta σ H fun vs H1 => ∃ j : Int, vs = [.int j] ∧ 0 ≤ j ∧ j ≤ 1000 ∧ GxR.TabG H1 P ∧ Z j H1 ∧ R j H1)
    (htest : ∀ (j : Int) (s1 : Shared) (H1 : Hp), Inv X pins σ H1 s1 → Z j H1 → ∀ (cenv : Env) (A' : Around) (E' : Value → Shared → Prop) (i : Nat) (t : Tok) (s2 : Shared) (m2 : Str → Option Value), cenv.scope = scope → cenv.cells = cloFrom X.env.cells scope.names [] →
      (∀ b o, b ≠ P → s1.heap.get? b = some o → s2.heap.get? b = some o) → s2.heap.Ns cenv.locals m2 → m2 x = some (.int (i : Nat) t) → wpAny (model X.prog X.w) A' (isTrue tst cenv (eval tst cenv)) (fun v s3 => v = pz i ∧ Keeps s2 s3) E' s2)
    (hd : (x == ("__debug__" : Str)) = false) (hs0 : starEach [ord] X.env = [(false, eval ord X.env)])
    (hs : ∀ v, genFold (.Call (.Name "range" rp) [ord] [] rpos) X.env v = pure v)
    (hQ : ∀ j H1 g s5, R j H1 → ReadyR X pins σ H1 P (passing pz j.toNat 0) g s5 → Q' (.ref g) s5) :
    wpAny (model X.prog X.w) X.A (eval (.GeneratorExp (.Name x pe) [⟨.Name x px, .Call (.Name "range" rp) [ord] [] rpos, [tst], 0⟩] scope gpos) X.env) Q' X.xe s := by
  refine wpAny_GeneratorExp_walksQ hr.hd S.co (closure_ok S.free) S.cell S.dot S.loc S.kind (by have := hr.dp; omega) ?_ hs
  refine Call_ (ld_blt I hg hm boot_range (PyProof.Rows.callWith_type1 (thn (ha.run rpos pins s σ H _ I h) fun us s0 ⟨vs, H1, I0, r1, q1⟩ => ?_) hs0 rfl))
  obtain ⟨j, rfl, hj0, hj1, ⟨ps, hP, ht⟩, hZ, q1⟩ := q1
  obtain ⟨u, rfl, ru⟩ := vals1 r1
  obtain ⟨tj, rfl⟩ := ru
  refine call_range_1 ?_
  have I1 : Inv X pins σ H1 { s0 with heap := s0.heap.push { cls := .type "range", data := .fields #[.int 0 s0.toks, .int j tj, .int 1 (s0.toks + 1)] }, toks := s0.toks + 1 + 1 } := I0.kept fun b o e => Heap.get?_push_of_some _ e
  have hR : IsRange ({ s0 with heap := s0.heap.push { cls := .type "range", data := .fields #[.int 0 s0.toks, .int j tj, .int 1 (s0.toks + 1)] }, toks := s0.toks + 1 + 1 } : Shared).heap s0.heap.objs.size 0 j 1 s0.toks tj (s0.toks + 1) := IsRange.new ..
  generalize ({ s0 with heap := s0.heap.push { cls := .type "range", data := .fields #[.int 0 s0.toks, .int j tj, .int 1 (s0.toks + 1)] }, toks := s0.toks + 1 + 1 } : Shared) = s1 at I1 hR ⊢
  generalize s0.heap.objs.size = rg at hR ⊢
  refine wpAny_pyIter_range hR (small_one (by omega) (by omega) (by omega) (by omega)) ?_
  have hrs : Builtin.Range.rangeSize 0 j 1 = j := by
    rw [rangeSize_one]
    split <;> omega
  rw [hrs]
  generalize ho : ({ cls := .type "range_iterator", data := .fields #[rawInt 0, rawInt j, rawInt 1] } : Obj) = o
  have hitr : (s1.heap.push o).get? s1.heap.objs.size = some o := Heap.get?_push_size _ (by rw [← ho]; rfl)
  have hPs : s1.heap.get? P = some { cls := .none, data := .fields ps } := I1.hok P _ hP
  have hPlt : P < s1.heap.objs.size := Heap.lt_size hPs
  have hP2 : (s1.heap.push o).get? P = some { cls := .none, data := .fields ps } := Heap.get?_push_of_some _ hPs
  have cd : PySem.W.CodeHd (s1.heap.push o) c P := TB.code.keeps fun b u e => Heap.get?_push_of_some _ (I1.bk b u e)
  have lim2 : (s1.heap.push o).NoLimit := I1.nolimit.push o
  have cont : ∀ (code : Value) (h3 : Heap) (tk : Nat) (ps' : Array Value), Heap.ExtBut P (s1.heap.push o) h3 → (s1.heap.push o).objs.size ≤ h3.objs.size → h3.get? P = some { cls := .none, data := .fields ps' } → (∃ more, ps' = ps ++ more) → TriplesOk ps'.toList →
      wpAny (model X.prog X.w) X.A (builtinsFor X.env.globals X.env.builtins) (fun bi s₄ =>
        ∃ Ia fp wr n₀ Pf St₀ pz F, Value.ref s1.heap.objs.size = .ref Ia ∧ (∀ A' : Around, A'.handled = none → Walks X.prog X.w A' Ia fp wr n₀ Pf St₀) ∧ St₀ 0 s₄.heap ∧ (∀ b ∈ fp, b < s₄.heap.objs.size) ∧ s₄.heap.NoLimit ∧ cStatics ∉ wr ∧
          (∀ href : Heap, (∀ b o, s₄.heap.get? b = some o → href.get? b = some o) →
            QuietGen X.prog X.w (genEnv scope (cloFrom X.env.cells scope.names []) s₄.heap.objs.size code bi X.env) x [tst] (.Name x pe) (List.range s₄.heap.objs.size) wr Pf pz F href) ∧
          (∀ a h₅ tk gs, gs.bare = true → s₄.heap.objs.size < a → h₅.objs.size = a + 1 → (∀ b o, s₄.heap.get? b = some o → h₅.get? b = some o) →
            WalksS X.prog X.w X.A.in4 a (a :: s₄.heap.objs.size :: List.range s₄.heap.objs.size) (s₄.heap.objs.size :: wr) (GenOnlyQ s₄.gens.size) (passing pz n₀ 0).length
              (fun j y => ∃ i, (passing pz n₀ 0)[j]? = some i ∧ F i y) (GenAt X.prog X.w X.A.in4 a s₄.gens.size s₄.heap.objs.size (List.range s₄.heap.objs.size) wr pz n₀ F) →
            GenAt X.prog X.w X.A.in4 a s₄.gens.size s₄.heap.objs.size (List.range s₄.heap.objs.size) wr pz n₀ F 0 { s₄ with gens := s₄.gens.push gs, toks := tk, heap := h₅ } →
            Q' (.ref a) { s₄ with gens := s₄.gens.push gs, toks := tk, heap := h₅ })) X.xe { s1 with heap := h3, toks := tk } := by
    intro code h3 tk ps' hx hsz hP3 hmore ht3
    obtain ⟨bm, ob, e1, e2, e3, e4, e5, e6, e7, e8⟩ := TB.bm
    have hcP : cStatics ≠ P := fun e => by
      obtain ⟨_, hns, _⟩ := I1.nolimit
      obtain ⟨o', es, ep, ho, hd, _⟩ := hns
      rw [e, hPs] at ho
      cases ho
      cases hd
    have hcl : cStatics < s1.heap.objs.size := let ⟨_, hns, _⟩ := I1.nolimit; hns.lt
    have sz2 : (s1.heap.push o).objs.size = s1.heap.objs.size + 1 := Heap.size_push ..
    have keep3 : ∀ b u, b ≠ P → s1.heap.get? b = some u → h3.get? b = some u := fun b u hb e => hx b u hb (Heap.get?_push_of_some _ e)
    refine wpAny_builtinsFor (m := X.mg) (by rw [I1.ok.glob]; exact ((I1.mod.glob.keeps I1.bk).push o).extBut hx TB.gP) e1 e2 (keep3 _ _ e4 (I1.bk _ _ e5)) e6 e7 e8 ?_
    have hItr3 : h3.get? s1.heap.objs.size = some o := hx _ _ (Nat.ne_of_gt hPlt) hitr
    refine ⟨s1.heap.objs.size, [s1.heap.objs.size], [s1.heap.objs.size], j.toNat, (fun i v => ∃ t, v = .int (0 + (i : Nat) * 1) t), (fun i h => IsRangeIter h s1.heap.objs.size (0 + (i : Nat) * 1) ((j.toNat : Int) - (i : Nat)) 1), pz,
      (fun i y => ∃ t, y = .int (i : Nat) t), rfl, (fun A' hA => Walks.range hA _ 0 1 _), ?_, ?_, lim2.extBut hx hcP, ?_, ?_, ?_⟩
    · show h3.get? s1.heap.objs.size = some _
      rw [hItr3, ← ho]
      have a1 : (0 : Int) + ((0 : Nat) : Int) * 1 = 0 := rfl
      have a2 : (j.toNat : Int) - ((0 : Nat) : Int) = j := by omega
      rw [a1, a2]
    · intro b hb
      rcases List.mem_cons.mp hb with z | z
      · rw [z]
        show s1.heap.objs.size < h3.objs.size
        omega
      · cases z
    · intro z
      rcases List.mem_cons.mp z with z | z
      · exact Nat.ne_of_lt hcl z
      · cases z
    · intro href hhref
      have up : ∀ (s₂ : Shared), (∀ b ∈ List.range h3.objs.size, b ∉ [s1.heap.objs.size] → ∀ o, href.get? b = some o → s₂.heap.get? b = some o) → ∀ b u, b ≠ P → s1.heap.get? b = some u → s₂.heap.get? b = some u := fun s₂ hk b u hb e => by
        have hl := Heap.lt_size e
        refine hk b (List.mem_range.mpr (Nat.lt_of_lt_of_le hl (by omega : s1.heap.objs.size ≤ h3.objs.size))) (fun z => ?_) u (hhref b u (keep3 b u hb e))
        rcases List.mem_cons.mp z with z | z
        · rw [z] at hl
          exact Nat.lt_irrefl _ hl
        · cases z
      refine ⟨fun A' E' i v s₂ m₂ hA hPv hn hm hk => ?_, fun A' E' i v s₂ m₂ hA hPv hp hn hm hk => ?_⟩
      · obtain ⟨t, rfl⟩ := hPv
        have a3 : (0 : Int) + ((i : Nat) : Int) * 1 = (i : Nat) := by omega
        rw [a3] at hm
        exact wpAny_tests_one (htest j s1 H1 I1 hZ _ A' E' i t s₂ m₂ rfl rfl (up s₂ hk) hn hm)
      · obtain ⟨t, rfl⟩ := hPv
        have a3 : (0 : Int) + ((i : Nat) : Int) * 1 = (i : Nat) := by omega
        rw [a3] at hm
        exact wpAny_Name (wpAny_loadName_local (by exact S.kind) (by exact S.loc) hn hm ⟨⟨t, rfl⟩, GxR.keeps_refl _⟩) hd
    · intro g h5 tk5 gs hgb hag hsz5 hk5 W5 hat
      refine hQ j H1 g _ q1 ⟨_, _, _, _, _, W5.in4_1, hat, hat.1.typeIs, ?_, fun s' hm => ?_⟩
      · rintro j2 v ⟨i, hij, t, rfl⟩
        exact ⟨i, t, hij, rfl⟩
      · obtain ⟨more, em⟩ := hmore
        have nwr : ∀ b u, s1.heap.get? b = some u → b ∉ h3.objs.size :: [s1.heap.objs.size] := fun b u e hb => by
          have hl := Heap.lt_size e
          rcases List.mem_cons.mp hb with z | z
          · rw [z] at hl
            have h9 : (h3.objs.size : Nat) < s1.heap.objs.size := hl
            omega
          · rcases List.mem_cons.mp z with z | z
            · rw [z] at hl
              exact Nat.lt_irrefl _ hl
            · cases z
        have J := GxR.inv_tab (more := more) (h' := s'.heap) (g' := s'.gens) (d' := s'.drawn) (t' := s'.toks) I1 hP (fun b u hb e => hm.heap b u (nwr b u e) (hk5 b u (keep3 b u hb e)))
          (by rw [← em]; exact hm.heap P _ (nwr P _ hPs) (hk5 P _ hP3)) (AllBare.movedS (I1.bare.push hgb) hm)
        rw [GxR.sh_eta s1 s' hm.os] at J
        refine ⟨upd H1 P (.tbl (ps ++ more)), ⟨⟨ps ++ more, upd_same, by rw [← em]; exact ht3⟩, fun b hb => upd_ne hb⟩, J⟩
  refine ⟨lim2, ?_⟩
  cases hf : codeAmong gpos ps.toList with
  | none =>
    refine wpAny_genexprCodeX hcode (cd.code hP2 ht) (cd.tab hP2) hf fun c' h' tk hx hge hlt hco' _ htab' _ => ?_
    obtain ⟨o1, vs, f1, tf, fl, tg, inF, tx, tt, op, _, _, _, _, _, _, _, _, _, htr, _⟩ := hco'
    exact cont _ h' tk _ hx (Nat.le_trans hge (Nat.le_of_lt hlt)) htab'.2 ⟨_, rfl⟩ htr
  | some cv =>
    refine wpAny_genexprCode_hit hcode (cd.code hP2 ht) hf ?_
    exact cont cv (s1.heap.push o) s1.toks ps (Heap.ExtBut.refl _ _) (Nat.le_refl _) hP2 ⟨#[], by simp⟩ ht
/-- what next(.., None) gives -/
def firstOf (n : Nat) (pz : Nat → Bool) : V := match ((List.range n).filter pz)[0]? with
  | some i => .int (i : Nat)
  | none => .non
def tNextR (P : Addr) (xi yi : Nat) (ta : TA) : TE := fun σ H Q => ∃ (n m y : Int) (p : Addr), σ[xi]? = some (some (.ref p)) ∧ σ[yi]? = some (some (.int y)) ∧ n ≠ 0 ∧ (-(2 ^ 64) < m ∧ m < 2 ^ 64) ∧ ta σ H fun vs H1 => ∃ j : Int, vs = [.int j] ∧ 0 ≤ j ∧ j ≤ 1000 ∧ GxR.TabG H1 P ∧ (H1 p = some (.tup [.int n, .int m]) ∧ GxR.TabG H1 P) ∧
  ∀ H2, GxR.Tabbed P H1 H2 → Q (firstOf j.toNat fun i => decide (((i : Int) * m - y).fmod n = 0)) H2
theorem cell_at {H1 : Hp} (I : Inv X pins σ H1 s) {i : Nat} {x : Str} {v : V} (hN : X.N[i]? = some x) (hv : σ[i]? = some (some v)) (hc : X.env.scope.names.lookup x = some .cell) : ∃ c u, X.env.cells.lookup x = some c ∧ RelV v u ∧ s.heap.IsCell c (some u) ∧ H1 c = none := by
  obtain ⟨m, hn, hl⟩ := I.loc
  obtain ⟨u, r, l⟩ := hl i x v hN hv (.inr (.inl hc))
  rcases l with ⟨k, _⟩ | ⟨_, c, e, z⟩
  · have k' : X.env.scope.names.lookup x = some .local := k
    rw [hc] at k'
    cases k'
  · exact ⟨c, u, e, r, z, I.freeC x c e⟩
theorem pe_nextR {c P : Addr} {ord : Expr} {x xr xp : Str} {xi yi : Nat} {scope sc : Scope} {ta : TA} {k : Nat} {j1 j2 j3 j4 : Nat} {q px pe rp rpos gpos pos npos p1 p2 p3 p4 p5 p6 p7 p8 p9 p10 p11 p12 p13 : Pos}
    (hr : Room k X.A) (hgn : Gl X "next") (hmn : X.mg "next" = none) (TB : GxR.TabB X.base X.mg c P) (hcode : X.env.code = .ref c) (hsc : X.env.scope = sc) (hsk : scope.kind = .function) (hsco : scope.isCoroutine = false) (hcell : ∀ y ∈ scope.names, y.2 ≠ .cell) (hdot : scope.names.lookup (".0" : Str) = some NameKind.local) (hloc : scope.names.lookup x = some .local) (hfree0 : ∀ y ∈ scope.names, y.2 = .free → sc.names.lookup y.1 = some .cell) (hg : Gl X "range") (hm : X.mg "range" = none) (ha : PA X [ord] ta)
    (hxr : sc.names.lookup xr = some .cell) (hxp : sc.names.lookup xp = some .cell) (hfr : (xr, NameKind.free) ∈ scope.names) (hfp : (xp, NameKind.free) ∈ scope.names) (hlr : scope.names.lookup xr = some .free) (hlp : scope.names.lookup xp = some .free)
    (hNr : X.N[xi]? = some xr) (hNp : X.N[yi]? = some xp)
    (d1 : (x == ("__debug__" : Str)) = false) (d2 : (xr == ("__debug__" : Str)) = false) (d3 : (xp == ("__debug__" : Str)) = false) (e2 : (xr == ("__classdict__" : Str)) = false) (e3 : (xp == ("__classdict__" : Str)) = false)
    (hs0 : starEach [ord] X.env = [(false, eval ord X.env)]) (hs : ∀ v, genFold (.Call (.Name "range" rp) [ord] [] rpos) X.env v = pure v)
    (he : ∀ e1 : Expr, (e1 = .GeneratorExp (.Name x pe) [⟨.Name x px, .Call (.Name "range" rp) [ord] [] rpos, [.Compare (.BinOp (.BinOp (.BinOp (.Name x p1) .Mult (.Subscript (.Name xr p2) (.Constant (.int 1) j1 p3) p4) p5) .Sub (.Name xp p6) p7) .Mod (.Subscript (.Name xr p8) (.Constant (.int 0) j2 p9) p10) p11) [.Eq] [.Constant (.int 0) j3 p12] p13], 0⟩] scope gpos) →
      starEach [e1, .Constant .none j4 npos] X.env = (false, eval e1 X.env) :: [(false, eval (.Constant .none j4 npos) X.env)] ∧ starEach [.Constant .none j4 npos] X.env = [(false, eval (.Constant .none j4 npos) X.env)]) :
    PE X (.Call (.Name "next" q) [.GeneratorExp (.Name x pe) [⟨.Name x px, .Call (.Name "range" rp) [ord] [] rpos, [.Compare (.BinOp (.BinOp (.BinOp (.Name x p1) .Mult (.Subscript (.Name xr p2) (.Constant (.int 1) j1 p3) p4) p5) .Sub (.Name xp p6) p7) .Mod (.Subscript (.Name xr p8) (.Constant (.int 0) j2 p9) p10) p11) [.Eq] [.Constant (.int 0) j3 p12] p13], 0⟩] scope gpos, .Constant .none j4 npos] [] pos) (tNextR P xi yi ta) := by
  refine ⟨fun pins s σ H Q I h => ?_⟩
  obtain ⟨h1, h2⟩ := he _ rfl
  have S : GxR.GenS X.env scope x := ⟨hsk, hsco, hcell, hdot, hloc, fun y hy e => I.ok.has y.1 (.inl (by show X.env.scope.names.lookup y.1 = _; rw [hsc]; exact hfree0 y hy e))⟩
  rw [← hsc] at hxr hxp
  obtain ⟨n, m, y, p, s1, s2, hn, hmb, h⟩ := h
  refine wpAny_Call_Name_kw (ld_blt (u := .builtin "next") I hgn hmn (by first | rfl | decide +kernel) ?_ (by decide) (by decide))
  refine PyProof.Rows.callWith_builtin1 ?_ (by rw [h1, h2]) (by rw [h2]; rfl)
  rw [h1]
  refine Calls.spliced_cons (gen_rng (R := fun j H1 => ∀ H2, GxR.Tabbed P H1 H2 → Q (firstOf j.toNat fun i => decide (((i : Int) * m - y).fmod n = 0)) H2) (Z := fun j H1 => H1 p = some (.tup [.int n, .int m]) ∧ GxR.TabG H1 P) (pz := fun i => decide (((i : Int) * m - y).fmod n = 0)) hr TB hcode S hg hm ha I h ?_ d1 hs0 hs ?_)
  · intro j s3 H3 I3 ⟨hZ, ps, hPt, _⟩ cenv A' E' i t s4 m4 hsc hce kp hn4 hm4
    obtain ⟨cr, ur, l1, r1, z1, f1⟩ := cell_at I3 hNr s1 hxr
    obtain ⟨cp, up, l2, r2, z2, f2⟩ := cell_at I3 hNp s2 hxp
    cases r1
    obtain ⟨ty, rfl⟩ := r2
    obtain ⟨its, rv, tp, _⟩ := I3.tuple (SqT.of hZ)
    obtain ⟨tn, tm, hits⟩ : ∃ tn tm, its = [.int n tn, .int m tm] := by
      cases rv with
      | cons ra rest =>
        cases rest with
        | cons rb rest2 =>
          cases rest2
          obtain ⟨ta, rfl⟩ := ra
          obtain ⟨tb, rfl⟩ := rb
          exact ⟨ta, tb, rfl⟩
    subst hits
    have hfree : ∀ y ∈ scope.names, y.2 = .free → ∃ c, X.env.cells.lookup y.1 = some c := S.free
    have nP : ∀ b, H3 b = none ∨ (∃ xs, H3 b = some (.tup xs)) → b ≠ P := fun b hb z => by
      rw [z, hPt] at hb
      rcases hb with hb | ⟨xs, hb⟩ <;> cases hb
    refine test_rest (cr := cr) (cp := cp) (p := p) (t1 := tn) (t2 := tm) (t3 := ty) (by rw [hsc]; exact S.kind) (by rw [hsc]; exact S.loc) (by rw [hsc]; exact hlr) (by rw [hsc]; exact hlp) (by rw [hce]; exact NdefX.clo_has hfree hfr l1) (by rw [hce]; exact NdefX.clo_has hfree hfp l2) hn4 hm4 ?_ ?_ ?_ hn (.inr hmb) d1 d2 d3 e2 e3
    · obtain ⟨o, ho, hd⟩ := z1
      exact ⟨o, kp _ _ (nP _ (.inl f1)) ho, hd⟩
    · obtain ⟨o, ho, hd⟩ := z2
      exact ⟨o, kp _ _ (nP _ (.inl f2)) ho, hd⟩
    · obtain ⟨o, ho, r⟩ := id tp
      exact ⟨o, kp _ _ (nP _ (.inr ⟨_, hZ⟩)) ho, r⟩
  · intro j H1 g s5 hR hG
    obtain ⟨fp, wr, G, F, St, W, hst, hT, hF, hI⟩ := hG
    refine Calls.spliced_cons (Constant_none (k := j4) (pos := npos) (Calls.spliced_nil ?_))
    refine call_next2 hT ?_
    cases hz : passing (fun i => decide (((i : Int) * m - y).fmod n = 0)) j.toNat 0 with
    | nil =>
      rw [hz] at W
      refine W.done s5 _ _ hst fun s' hm => ?_
      obtain ⟨H2, ht, J⟩ := hI s' hm
      refine ⟨.non, H2, J, rfl, ?_⟩
      have := hR H2 ht
      unfold firstOf at this
      unfold passing at hz
      rw [List.drop_zero] at hz
      rw [hz] at this
      exact this
    | cons i r =>
      rw [hz] at W hF
      refine W.item 0 s5 _ _ (by simp) hst fun v s' hP _ hm => ?_
      obtain ⟨i2, t, hi, rfl⟩ := hF _ _ hP
      obtain rfl : i = i2 := by simpa using hi
      obtain ⟨H2, ht, J⟩ := hI s' hm
      refine ⟨.int (i : Nat), H2, J, ⟨t, rfl⟩, ?_⟩
      have := hR H2 ht
      unfold firstOf at this
      unfold passing at hz
      rw [List.drop_zero] at hz
      rw [hz] at this
      exact this
end
end K7

set_option Elab.async false
set_option linter.all false
set_option maxRecDepth 100000
set_option maxHeartbeats 4000000
/-! list(zip(t, u)) of two tuples. -/
namespace K7
open PySem PySem.Spec PyProof.Rows L2
section
variable {prog : Program} {w : World} {A : Around} {E : Value → Shared → Prop} {s : Shared} {z TI TO T i1 i2 : Addr} {f : Bool} {oT : Obj} {fp1 fp2 : List Addr} {n1 n2 i : Nat} {P1 P2 : Nat → Value → Prop} {St1 St2 : Nat → Heap → Prop}
theorem held_item {Q : Value → Shared → Prop} (S : ZipSep2 z TI TO i1 i2 fp1 fp2) (D1 : Draws prog w A i1 fp1 n1 P1 St1) (D2 : Draws prog w A i2 fp2 n2 P2 St2)
    (hz : IsZipHeld s.heap z TI TO T f) (hT : s.heap.get? T = some oT) (hTI : IsTupOf2 s.heap TI (.ref i1) (.ref i2)) (st1 : St1 i s.heap) (st2 : St2 i s.heap) (hlt1 : i < n1) (hlt2 : i < n2)
    (hQ : ∀ x1 x2 h' tk, P1 i x1 → P2 i x2 → IsZipHeld h' z TI TO T true → St1 (i + 1) h' → St2 (i + 1) h' → IsTupOf2 h' s.heap.objs.size x1 x2 → h'.objs.size = s.heap.objs.size + 1 →
      (∀ c o, c ≠ z → c ≠ i1 → c ≠ i2 → s.heap.get? c = some o → h'.get? c = some o) → Q (.ref s.heap.objs.size) { s with heap := h', toks := tk }) :
    wpAny (model prog w) A (Builtin.«zip.__next__» ⟨[.ref z], []⟩) (fun fin s' => ∃ v, fin = .done (.ret v) ∧ Q v s') E s := by
  obtain ⟨hp, g, d, tk0, os⟩ := s
  show wpAny _ _ (field (.ref z) 2 >>= _) _ _ _
  refine wpAny_bind (wpAny_field hz rfl (x := .bool false) rfl ?_)
  show wpAny _ _ (field (.ref z) 3 >>= _) _ _ _
  refine wpAny_bind (wpAny_field hz rfl (x := .ref TI) rfl ?_)
  refine wpAny_bind (wpAny_seqItems hTI rfl ?_)
  show wpAny _ _ (Builtin.SmallTypes.ownedTupleIsFree (.ref z) >>= _) _ _ _
  refine wpAny_bind (wpAny_tupleHeld_zip hz hT fun g0 hz0 hs0 => ?_)
  replace hs0 : Heap.SameBut z hp g0 := hs0
  simp only [Bool.false_eq_true, if_false]
  refine wpAny_bind ?_
  rw [← Array.forIn_toList]
  simp only [List.forIn_cons, List.forIn_nil]
  refine wpAny_bind (wpAny_bind (wpAny_holding ?_))
  show wpAny _ _ (Builtin.SmallTypes.nextOf (.ref i1) >>= _) _ _ ⟨g0, g, d, tk0, os⟩
  refine wpAny_bind (D1.item i _ _ _ hlt1 (D1.over st1 hs0 S.zf1) fun x1 p1 tk1 hx1 sn1 hp1 => wpAny_pure ?_)
  replace hp1 : Heap.SameBut i1 g0 p1 := hp1
  refine wpAny_pure ?_
  refine wpAny_bind (wpAny_bind (wpAny_holding ?_))
  show wpAny _ _ (Builtin.SmallTypes.nextOf (.ref i2) >>= _) _ _ ⟨p1, g, d, tk1, os⟩
  refine wpAny_bind (D2.item i _ _ _ hlt2 (D2.over (D2.over st2 hs0 S.zf2) hp1 S.sep1_2) fun x2 p2 tk2 hx2 sn2 hp2 => wpAny_pure ?_)
  replace hp2 : Heap.SameBut i2 p1 p2 := hp2
  refine wpAny_pure (wpAny_pure ?_)
  show wpAny _ _ (newTuple [x1, x2] >>= _) _ _ _
  refine wpAny_bind (wpAny_newTuple ?_)
  have hsz : p2.objs.size = hp.objs.size := by rw [hp2.1, hp1.1, hs0.1]
  have hzz : IsZipHeld p2 z TI TO T true := hp2.extBut _ _ S.zi2 (hp1.extBut _ _ S.zi1 hz0)
  have hk : ∀ c o, c ≠ z → c ≠ i1 → c ≠ i2 → hp.get? c = some o → p2.get? c = some o := fun c o c1 c2 c3 e => hp2.extBut _ _ c3 (hp1.extBut _ _ c2 (hs0.extBut _ _ c1 e))
  have hj1 : St1 (i + 1) p2 := D1.over sn1 hp2 S.sep2_1
  refine wpAny_pure ⟨_, rfl, ?_⟩
  show Q (.ref p2.objs.size) ⟨p2.push { cls := .type "tuple", data := .seq #[x1, x2] }, g, d, tk2, os⟩
  have hpp : IsTupOf2 (p2.push { cls := .type "tuple", data := .seq #[x1, x2] }) p2.objs.size x1 x2 := Heap.get?_push_size _ rfl
  have hz4 : (p2.push { cls := .type "tuple", data := .seq #[x1, x2] }).objs.size = p2.objs.size + 1 := Heap.size_push ..
  rw [hsz] at hpp hz4 ⊢
  exact hQ x1 x2 _ tk2 hx1 hx2 (Heap.get?_push_of_some _ hzz) (D1.frame _ _ _ hj1 fun b hb o e => Heap.get?_push_of_some _ e) (D2.frame _ _ _ sn2 fun b hb o e => Heap.get?_push_of_some _ e) hpp hz4 fun c o c1 c2 c3 e => Heap.get?_push_of_some _ (hk c o c1 c2 c3 e)
theorem held_end {Q : Fin → Shared → Prop} (S : ZipSep2 z TI TO i1 i2 fp1 fp2) (D1 : Draws prog w A i1 fp1 n1 P1 St1)
    (hz : IsZipHeld s.heap z TI TO T f) (hT : s.heap.get? T = some oT) (hTI : IsTupOf2 s.heap TI (.ref i1) (.ref i2)) (st1 : St1 n1 s.heap)
    (hE : ∀ h' e, (∀ c o, c ≠ z → c ≠ i1 → s.heap.get? c = some o → h'.get? c = some o) → (∃ o, h'.get? e = some o ∧ o.cls = .type "StopIteration") → E (.ref e) { s with heap := h' }) :
    wpAny (model prog w) A (Builtin.«zip.__next__» ⟨[.ref z], []⟩) Q E s := by
  obtain ⟨hp, g, d, tk0, os⟩ := s
  show wpAny _ _ (field (.ref z) 2 >>= _) _ _ _
  refine wpAny_bind (wpAny_field hz rfl (x := .bool false) rfl ?_)
  show wpAny _ _ (field (.ref z) 3 >>= _) _ _ _
  refine wpAny_bind (wpAny_field hz rfl (x := .ref TI) rfl ?_)
  refine wpAny_bind (wpAny_seqItems hTI rfl ?_)
  show wpAny _ _ (Builtin.SmallTypes.ownedTupleIsFree (.ref z) >>= _) _ _ _
  refine wpAny_bind (wpAny_tupleHeld_zip hz hT fun g0 hz0 hs0 => ?_)
  replace hs0 : Heap.SameBut z hp g0 := hs0
  simp only [Bool.false_eq_true, if_false]
  refine wpAny_bind ?_
  rw [← Array.forIn_toList]
  simp only [List.forIn_cons, List.forIn_nil]
  refine wpAny_bind (wpAny_bind (wpAny_holding ?_))
  show wpAny _ _ (Builtin.SmallTypes.nextOf (.ref i1) >>= _) _ _ ⟨g0, g, d, tk0, os⟩
  refine wpAny_bind (D1.done ⟨g0, g, d, tk0, os⟩ _ _ (D1.over st1 hs0 S.zf1) fun q e hq he => ?_)
  exact hE q e (fun c o c1 c2 x => hq _ _ c2 (hs0.extBut _ _ c1 x)) he
theorem next_held_item {Q : Option Value → Shared → Prop} (S : ZipSep2 z TI TO i1 i2 fp1 fp2) (D1 : Draws prog w A.in1 i1 fp1 n1 P1 St1) (D2 : Draws prog w A.in1 i2 fp2 n2 P2 St2)
    (hz : IsZipHeld s.heap z TI TO T f) (hT : s.heap.get? T = some oT) (hTI : IsTupOf2 s.heap TI (.ref i1) (.ref i2)) (st1 : St1 i s.heap) (st2 : St2 i s.heap) (hlt1 : i < n1) (hlt2 : i < n2)
    (hQ : ∀ x1 x2 h' tk, P1 i x1 → P2 i x2 → IsZipHeld h' z TI TO T true → St1 (i + 1) h' → St2 (i + 1) h' → IsTupOf2 h' s.heap.objs.size x1 x2 → h'.objs.size = s.heap.objs.size + 1 →
      (∀ c o, c ≠ z → c ≠ i1 → c ≠ i2 → s.heap.get? c = some o → h'.get? c = some o) → Q (some (.ref s.heap.objs.size)) { s with heap := h', toks := tk }) : wpAny (model prog w) A (pyNext (.ref z)) Q E s := by
  have hTy : s.TypeIs (.ref z) "zip" := ⟨_, hz, rfl⟩
  unfold pyNext
  exact wpAny_bind (wpAny_attempt (wpAny_callSpecial?_slot (name := Str.ofString "__next__") hTy F.slot_zip_next
    (wpAny_call_entry F.slot_zip_next hTy F.entry_zip_next
      (held_item S D1 D2 hz hT hTI st1 st2 hlt1 hlt2 fun x1 x2 h' tk a1 a2 a3 a4 a5 a6 a7 a8 => wpAny_pure (hQ x1 x2 h' tk a1 a2 a3 a4 a5 a6 a7 a8)) (F.args_zip_next_1 _))))
theorem next_held_end {Q : Option Value → Shared → Prop} (S : ZipSep2 z TI TO i1 i2 fp1 fp2) (D1 : Draws prog w A.in1 i1 fp1 n1 P1 St1)
    (hz : IsZipHeld s.heap z TI TO T f) (hT : s.heap.get? T = some oT) (hTI : IsTupOf2 s.heap TI (.ref i1) (.ref i2)) (st1 : St1 n1 s.heap)
    (hQ : ∀ h', (∀ c o, c ≠ z → c ≠ i1 → s.heap.get? c = some o → h'.get? c = some o) → Q none { s with heap := h' }) : wpAny (model prog w) A (pyNext (.ref z)) Q E s := by
  have hTy : s.TypeIs (.ref z) "zip" := ⟨_, hz, rfl⟩
  unfold pyNext
  refine wpAny_bind (wpAny_attempt (wpAny_callSpecial?_slot (name := Str.ofString "__next__") hTy F.slot_zip_next
    (wpAny_call_entry F.slot_zip_next hTy F.entry_zip_next (held_end S D1 hz hT hTI st1 fun h' e hk he => ?_) (F.args_zip_next_1 _))))
  obtain ⟨o, ho, hc⟩ := he
  refine wpAny_bind (wpAny_isInstance (T := "StopIteration") (b := true) ⟨o, ho, hc⟩ isSubtype_stop ?_)
  exact wpAny_pure (hQ _ hk)
end
section
variable {prog : Program} {w : World} {A : Around} {E : Value → Shared → Prop} {s : Shared} {z TI TO i1 i2 : Addr} {fp1 fp2 : List Addr} {n : Nat} {P1 P2 : Nat → Value → Prop} {St1 St2 : Nat → Heap → Prop}
/-- the zip between two turns: nothing out yet, or its last tuple is held -/
def ZS (h : Heap) (z TI TO i1 i2 S : Addr) : Prop := (IsZip h z TI TO .none ∧ ∃ a b, IsTupOf2 h TO a b) ∨ ∃ T f oT, IsZipHeld h z TI TO T f ∧ h.get? T = some oT ∧ T ≠ z ∧ T ≠ i1 ∧ T ≠ i2 ∧ T ≠ S
theorem zs_item {S : Addr} {i : Nat} {Q : Option Value → Shared → Prop} (D : ZipSep2 z TI TO i1 i2 fp1 fp2) (D1 : Draws prog w A.in1 i1 fp1 n P1 St1) (D2 : Draws prog w A.in1 i2 fp2 n P2 St2) (hS : S < s.heap.objs.size)
    (hz : ZS s.heap z TI TO i1 i2 S) (hTI : IsTupOf2 s.heap TI (.ref i1) (.ref i2)) (st1 : St1 i s.heap) (st2 : St2 i s.heap) (hlt : i < n)
    (hQ : ∀ x1 x2 h' tk, P1 i x1 → P2 i x2 → ZS h' z TI TO i1 i2 S → St1 (i + 1) h' → St2 (i + 1) h' → IsTupOf2 h' s.heap.objs.size x1 x2 → h'.objs.size = s.heap.objs.size + 1 →
      (∀ c o, c ≠ z → c ≠ TO → c ≠ i1 → c ≠ i2 → s.heap.get? c = some o → h'.get? c = some o) → Q (some (.ref s.heap.objs.size)) { s with heap := h', toks := tk }) : wpAny (model prog w) A (pyNext (.ref z)) Q E s := by
  have l1 : i1 < s.heap.objs.size := let ⟨_, q⟩ := D1.live _ _ st1; Heap.lt_size q
  have l2 : i2 < s.heap.objs.size := let ⟨_, q⟩ := D2.live _ _ st2; Heap.lt_size q
  rcases hz with ⟨hz, a, b, hTO⟩ | ⟨T, f, oT, hz, hT, r1, r2, r3, r4⟩
  · refine wpAny_pyNext_zipD2_item D D1 D2 hz hTI hTO st1 st2 hlt hlt fun x1 x2 h' tk a1 a2 a3 a4 a5 a6 a7 a8 a9 => ?_
    exact hQ x1 x2 h' tk a1 a2 (.inr ⟨_, false, _, a3, a7, Nat.ne_of_gt (Heap.lt_size hz), Nat.ne_of_gt l1, Nat.ne_of_gt l2, Nat.ne_of_gt hS⟩) a5 a6 a7 a8 a9
  · refine next_held_item D D1 D2 hz hT hTI st1 st2 hlt hlt fun x1 x2 h' tk a1 a2 a3 a4 a5 a6 a7 a8 => ?_
    exact hQ x1 x2 h' tk a1 a2 (.inr ⟨T, true, oT, a3, a8 _ _ r1 r2 r3 hT, r1, r2, r3, r4⟩) a4 a5 a6 a7 fun c o c1 _ c2 c3 e => a8 c o c1 c2 c3 e
theorem zs_end {S : Addr} {Q : Option Value → Shared → Prop} (D : ZipSep2 z TI TO i1 i2 fp1 fp2) (D1 : Draws prog w A.in1 i1 fp1 n P1 St1) (D2 : Draws prog w A.in1 i2 fp2 n P2 St2)
    (hz : ZS s.heap z TI TO i1 i2 S) (hTI : IsTupOf2 s.heap TI (.ref i1) (.ref i2)) (st1 : St1 n s.heap) (st2 : St2 n s.heap)
    (hQ : ∀ h' tk, (∀ c o, c ≠ z → c ≠ TO → c ≠ i1 → c ≠ i2 → s.heap.get? c = some o → h'.get? c = some o) → Q none { s with heap := h', toks := tk }) : wpAny (model prog w) A (pyNext (.ref z)) Q E s := by
  rcases hz with ⟨hz, a, b, hTO⟩ | ⟨T, f, oT, hz, hT, r1, r2, r3, r4⟩
  · exact wpAny_pyNext_zipD2_end D D1 D2 hz hTI hTO st1 st2 (Nat.le_refl _) (Nat.le_refl _) (.inl rfl) fun h' tk hk => hQ h' tk hk
  · exact next_held_end D D1 hz hT hTI st1 fun h' hk => hQ h' s.toks fun c o c1 _ c2 _ e => hk c o c1 c2 e
/-- the list's loop over the zip: the tuples lie one behind another from B on -/
theorem zip_loop {S B : Addr} {res : Value} {R : Result → Shared → Prop} {us vs : Nat → Value} (D : ZipSep2 z TI TO i1 i2 fp1 fp2) (D1 : Draws prog w A.in1.in1 i1 fp1 n P1 St1) (D2 : Draws prog w A.in1.in1 i2 fp2 n P2 St2) (hP1 : ∀ i v, P1 i v → v = us i) (hP2 : ∀ i v, P2 i v → v = vs i) (hS : S < B)
    (nz : S ≠ z) (nTI : S ≠ TI) (nTO : S ≠ TO) (n1 : S ∉ fp1) (n2 : S ∉ fp2) (hzB : z < B) (hTB : TO < B) (h1B : i1 < B) (h2B : i2 < B) (hn : n ≤ 1000) :
    ∀ (k i : Nat) (s : Shared) (acc : Array Value) (c : Nat), n - i = k → i ≤ n → ZS s.heap z TI TO i1 i2 S → IsTupOf2 s.heap TI (.ref i1) (.ref i2) → St1 i s.heap → St2 i s.heap → s.heap.objs.size = B + i →
      s.heap.get? S = some { cls := .type "list", dict := none, data := .seq acc c, slots := #[] } → acc = ((List.range i).map fun j => Value.ref (B + j)).toArray → (∀ j, j < i → IsTupOf2 s.heap (B + j) (us j) (vs j)) →
      (∀ h' tk acc' c', (∀ b o, b ≠ z → b ≠ TO → b ≠ i1 → b ≠ i2 → b ≠ S → s.heap.get? b = some o → h'.get? b = some o) → h'.get? S = some { cls := .type "list", dict := none, data := .seq acc' c', slots := #[] } → acc' = ((List.range n).map fun j => Value.ref (B + j)).toArray →
        (∀ j, j < n → IsTupOf2 h' (B + j) (us j) (vs j)) → R (.ok (.ret res)) { s with heap := h', toks := tk }) →
      codeAny (model prog w) A (.builtin "list.extend.loop" ⟨[.ref S, .ref z, res], []⟩) R s := by
  have ne : ∀ (c j : Nat), c < B → (B + j : Nat) ≠ c := fun c j h e => absurd h (by rw [← e]; exact Nat.not_lt.mpr (Nat.le_add_right _ _))
  have n1S : i1 ≠ S := fun e => n1 (e ▸ D.mem1)
  have n2S : i2 ≠ S := fun e => n2 (e ▸ D.mem2)
  intro k
  induction k with
  | zero =>
    intro i s acc c hk hi hz hTI st1 st2 hsz hL hacc htup hR
    have hin : i = n := by omega
    subst hin
    refine codeAny_builtin F.entry_extend_loop ?_
    rw [Around.under_plainId F.plain_extend_loop _]
    show wpAny _ A.in1 (pyNext (.ref z) >>= _) _ _ s
    refine wpAny_bind (zs_end D D1 D2 hz hTI st1 st2 fun h' tk hk' => ?_)
    exact wpAny_pure (hR h' tk acc c (fun b o b1 b2 b3 b4 _ e => hk' b o b1 b2 b3 b4 e) (hk' _ _ nz nTO n1S.symm n2S.symm hL) hacc fun j hj => hk' _ _ (ne _ _ hzB) (ne _ _ hTB) (ne _ _ h1B) (ne _ _ h2B) (htup j hj))
  | succ k ih =>
    intro i s acc c hk hi hz hTI st1 st2 hsz hL hacc htup hR
    have hlt : i < n := by omega
    have hSs : S < s.heap.objs.size := Heap.lt_size hL
    refine codeAny_builtin F.entry_extend_loop ?_
    rw [Around.under_plainId F.plain_extend_loop _]
    show wpAny _ A.in1 (pyNext (.ref z) >>= _) _ _ s
    refine wpAny_bind (zs_item D D1 D2 hSs hz hTI st1 st2 hlt fun x1 x2 h' tk e1 e2 hz' st1' st2' hT hsz' hk' => ?_)
    obtain rfl := hP1 _ _ e1
    obtain rfl := hP2 _ _ e2
    have hL' := hk' _ _ nz nTO n1S.symm n2S.symm hL
    rw [hsz] at hT hsz' ⊢
    show wpAny _ A.in1 (updateSeq S (·.push (.ref (B + i))) >>= _) _ _ _
    refine wpAny_bind ?_
    have hasz : acc.size = i := by rw [hacc]; simp
    refine wpAny_updateSeq (s := { s with heap := h', toks := tk }) hL' rfl (wpAny_pure ⟨plainId_quiet F.plain_extend_loop _, ?_⟩) (by have := sz 1000 (by omega); omega) (by show (acc.push _).size ≤ sizeLine + 1; rw [Array.size_push]; have := sz 1000 (by omega); omega)
    have oth : ∀ b o, b ≠ S → h'.get? b = some o → (h'.update S (Obj.mapSeq (·.push (.ref (B + i))))).get? b = some o := fun b o hb e => (Heap.get?_update_other _ _ (Ne.symm hb)).trans e
    have neS : ∀ j : Nat, (B + j : Nat) ≠ S := fun j => ne S j hS
    refine ih (i + 1) _ (acc.push (.ref (B + i))) _ (by omega) hlt ?_ ?_ (D1.frame _ _ _ st1' fun b hb o e => oth b o (fun q => n1 (q ▸ hb)) e) (D2.frame _ _ _ st2' fun b hb o e => oth b o (fun q => n2 (q ▸ hb)) e) ?_ (Heap.get?_update_self _ hL' rfl) ?_ ?_ ?_
    · rcases hz' with ⟨q1, a, b, q2⟩ | ⟨T, f, oT, q1, q2, r1, r2, r3, r4⟩
      · exact .inl ⟨oth _ _ nz.symm q1, a, b, oth _ _ nTO.symm q2⟩
      · exact .inr ⟨T, f, oT, oth _ _ nz.symm q1, oth _ _ r4 q2, r1, r2, r3, r4⟩
    · refine oth _ _ nTI.symm (hk' _ _ D.TIz D.TITO D.TIi1 D.TIi2 hTI)
    · show (h'.update S _).objs.size = _
      rw [(Heap.SameBut.update ..).1]
      omega
    · rw [hacc, List.range_succ, List.map_append]
      simp
    · intro j hj
      by_cases hj2 : j < i
      · exact oth _ _ (neS j) (hk' _ _ (ne _ _ hzB) (ne _ _ hTB) (ne _ _ h1B) (ne _ _ h2B) (htup j hj2))
      · obtain rfl : j = i := by omega
        exact oth _ _ (neS j) hT
    · intro h2 tk2 acc' c' k2 g1 g2 g3
      exact hR h2 tk2 acc' c' (fun b o b1 b2 b3 b4 b5 e => k2 b o b1 b2 b3 b4 b5 (oth b o b5 (hk' b o b1 b2 b3 b4 e))) g1 g2 g3
end
theorem zip_no_len : typeLookup (.type "zip") "__len__" = pure none := by rw [typeLookup_type, builtinLookup_eq_fast]; kernel_rfl
theorem zip_no_hint : typeLookup (.type "zip") "__length_hint__" = pure none := by rw [typeLookup_type, builtinLookup_eq_fast]; kernel_rfl
section
variable {prog : Program} {w : World} {A : Around} {E : Value → Shared → Prop} {s : Shared} {z TI TO i1 i2 : Addr} {fp1 fp2 : List Addr} {n : Nat} {P1 P2 : Nat → Value → Prop} {St1 St2 : Nat → Heap → Prop}
theorem call_list_zip {Q : Value → Shared → Prop} {us vs : Nat → Value} (D : ZipSep2 z TI TO i1 i2 fp1 fp2) (D1 : Draws prog w A.in1.in1.in1 i1 fp1 n P1 St1) (D2 : Draws prog w A.in1.in1.in1 i2 fp2 n P2 St2) (hP1 : ∀ i v, P1 i v → v = us i) (hP2 : ∀ i v, P2 i v → v = vs i)
    (hz : IsZip s.heap z TI TO .none) (hTI : IsTupOf2 s.heap TI (.ref i1) (.ref i2)) (hTO : ∃ a b, IsTupOf2 s.heap TO a b) (st1 : St1 0 s.heap) (st2 : St2 0 s.heap) (f1 : ∀ b ∈ fp1, b < s.heap.objs.size) (f2 : ∀ b ∈ fp2, b < s.heap.objs.size) (hn : n ≤ 1000)
    (hQ : ∀ h' tk acc' c', (∀ b o, b ≠ z → b ≠ TO → b ≠ i1 → b ≠ i2 → s.heap.get? b = some o → h'.get? b = some o) → h'.get? s.heap.objs.size = some { cls := .type "list", dict := none, data := .seq acc' c', slots := #[] } → acc' = ((List.range n).map fun j => Value.ref (s.heap.objs.size + 1 + j)).toArray →
        (∀ j, j < n → IsTupOf2 h' (s.heap.objs.size + 1 + j) (us j) (vs j)) → Q (.ref s.heap.objs.size) { s with heap := h', toks := tk }) :
    wpAny (model prog w) A (call (.type "list") [.ref z]) Q E s := by
  obtain ⟨ta, tb, hTO⟩ := hTO
  have lz : z < s.heap.objs.size := Heap.lt_size hz
  have lTI : TI < s.heap.objs.size := Heap.lt_size hTI
  have lTO : TO < s.heap.objs.size := Heap.lt_size hTO
  have l1 : i1 < s.heap.objs.size := f1 _ D.mem1
  have l2 : i2 < s.heap.objs.size := f2 _ D.mem2
  refine callType_codes (Q₁ := fun obj s₁ => obj = .ref s.heap.objs.size ∧ s₁ = { s with heap := s.heap.push { cls := .type "list", data := .seq #[] } }) F.called_list (F.typeCall_list_1 _) F.entry_list_init
    (code_list_new _ ⟨rfl, rfl⟩) fun obj s₁ h₁ => ?_
  obtain ⟨rfl, rfl⟩ := h₁
  have hS : (s.heap.push { cls := .type "list", data := .seq #[] }).get? s.heap.objs.size = some { cls := .type "list", data := .seq #[] } := Heap.get?_push_size _ rfl
  have hsz0 : (s.heap.push { cls := .type "list", data := .seq #[] }).objs.size = s.heap.objs.size + 1 := Heap.size_push ..
  generalize hL : s.heap.objs.size = L at *
  refine ⟨⟨_, hS, rfl⟩, F.args_list_init_2 _ _, ?_⟩
  show wpAny _ A.in1.in1 (do let old ← Builtin.List.listItems (.ref L); Builtin.List.listUpdate (.ref L) (fun _ => #[]); letGo old.toList.reverse; Builtin.List.listExtendWith (.ref L) (.ref z) .none) _ _ _
  refine wpAny_bind ?_
  unfold Builtin.List.listItems
  refine wpAny_bind (wpAny_seqItems hS rfl (wpAny_pure ?_))
  show wpAny _ A.in1.in1 (updateSeq L (fun _ => #[]) >>= fun _ => letGo (#[] : Array Value).toList.reverse >>= fun _ => Builtin.List.listExtendWith (.ref L) (.ref z) .none) _ _ _
  refine wpAny_bind (wpAny_updateSeq hS rfl ?_)
  have hS₂ := Heap.get?_update_self (Obj.mapSeq (fun _ => (#[] : Array Value))) hS rfl
  have up2 : ∀ b o, b ≠ L → s.heap.get? b = some o → ((s.heap.push { cls := .type "list", data := .seq #[] }).update L (Obj.mapSeq (fun _ => (#[] : Array Value)))).get? b = some o :=
    fun b o hb e => (Heap.get?_update_other _ _ (Ne.symm hb)).trans (Heap.get?_push_of_some _ e)
  have hsz2 : ((s.heap.push { cls := .type "list", data := .seq #[] }).update L (Obj.mapSeq (fun _ => (#[] : Array Value)))).objs.size = L + 1 := by rw [(Heap.SameBut.update ..).1, hsz0]
  refine wpAny_bind (wpAny_letGo ?_)
  generalize ((s.heap.push { cls := .type "list", data := .seq #[] }).update L (Obj.mapSeq (fun _ => (#[] : Array Value)))) = h2 at hS₂ up2 hsz2 ⊢
  have nL : ∀ b, b < L → b ≠ L := fun b h => Nat.ne_of_lt h
  have hz2 : IsZip h2 z TI TO .none := up2 _ _ (nL _ lz) hz
  have tz2 : ({ s with heap := h2 } : Shared).TypeIs (.ref z) "zip" := ⟨_, hz2, rfl⟩
  unfold Builtin.List.listExtendWith
  refine wpAny_bind (wpAny_typeOf tz2 ?_)
  have h1 : Builtin.List.listSameRef (.ref L) (.ref z) = false := by
    have := nL _ lz
    simp [Builtin.List.listSameRef, Ne.symm this]
  have h3 : (Value.type "zip" == Value.type "list") = false := by decide
  have h4 : (Value.type "zip" == Value.type "tuple") = false := by decide
  simp only [h1, h3, h4, Bool.or_false, Bool.false_eq_true, if_false]
  refine wpAny_bind (wpAny_pyIter_zip hz2 ?_)
  refine wpAny_bind (wpAny_holding ?_)
  unfold Builtin.List.listLengthHint
  refine wpAny_bind (wpAny_specialOf tz2 zip_no_len ?_)
  show wpAny _ A.in1.in1 (specialOf (Value.ref z) (Str.ofString "__length_hint__") >>= _) _ _ _
  refine wpAny_bind (wpAny_specialOf tz2 zip_no_hint ?_)
  refine wpAny_pure ?_
  show wpAny _ A.in1.in1 (rule "list.extend.makes-room" >>= fun _ => Builtin.List.listTouch (.ref L) >>= fun _ =>
    again (.builtin "list.extend.loop" ⟨[.ref L, .ref z, .none], []⟩)) _ _ _
  refine wpAny_bind (wpAny_rule ?_)
  refine wpAny_bind ?_
  show wpAny _ A.in1.in1 (updateSeq L (·.push .none) >>= fun _ => updateSeq L (·.pop)) _ _ _
  refine wpAny_bind (wpAny_updateSeq (s := { s with heap := h2 }) hS₂ rfl ?_)
  have hS₃ := Heap.get?_update_self (Obj.mapSeq (·.push Value.none)) hS₂ rfl
  refine wpAny_updateSeq (s := { s with heap := h2.update L (Obj.mapSeq (·.push Value.none)) }) (hz := by seq_fits) hS₃ rfl ?_
  have hS₄ := Heap.get?_update_self (Obj.mapSeq (·.pop)) hS₃ rfl
  have up4 : ∀ b o, b ≠ L → s.heap.get? b = some o → ((h2.update L (Obj.mapSeq (·.push Value.none))).update L (Obj.mapSeq (·.pop))).get? b = some o :=
    fun b o hb e => (Heap.get?_update_other _ _ (Ne.symm hb)).trans ((Heap.get?_update_other _ _ (Ne.symm hb)).trans (up2 b o hb e))
  have hsz4 : ((h2.update L (Obj.mapSeq (·.push Value.none))).update L (Obj.mapSeq (·.pop))).objs.size = L + 1 := by rw [(Heap.SameBut.update ..).1, (Heap.SameBut.update ..).1, hsz2]
  generalize ((h2.update L (Obj.mapSeq (·.push Value.none))).update L (Obj.mapSeq (·.pop))) = h4 at hS₄ up4 hsz4 ⊢
  refine wpAny_pure ⟨plainId_quiet F.plain_extend_loop _, ?_⟩
  refine zip_loop (B := L + 1) D D1 D2 hP1 hP2 (Nat.lt_succ_self _) (nL _ lz).symm (nL _ lTI).symm (nL _ lTO).symm (fun q => Nat.lt_irrefl _ (f1 _ q)) (fun q => Nat.lt_irrefl _ (f2 _ q)) (Nat.lt_succ_of_lt lz) (Nat.lt_succ_of_lt lTO) (Nat.lt_succ_of_lt l1) (Nat.lt_succ_of_lt l2) hn
    n 0 { s with heap := h4 } #[] _ rfl (Nat.zero_le _) (.inl ⟨up4 _ _ (nL _ lz) hz, ta, tb, up4 _ _ (nL _ lTO) hTO⟩) (up4 _ _ (nL _ lTI) hTI) (D1.frame _ _ _ st1 fun b hb o e => up4 b o (nL _ (f1 b hb)) e) (D2.frame _ _ _ st2 fun b hb o e => up4 b o (nL _ (f2 b hb)) e) hsz4 hS₄ rfl (fun j hj => absurd hj (Nat.not_lt_zero _)) fun h' tk acc' c' hk g1 g2 g3 => ?_
  exact ⟨rfl, hQ h' tk acc' c' (fun b o b1 b2 b3 b4 e => hk b o b1 b2 b3 b4 (nL _ (by rw [← hL]; exact Heap.lt_size e)) (up4 b o (nL _ (by rw [← hL]; exact Heap.lt_size e)) e)) g1 g2 g3⟩
end
/-- the zipped list and its tuples, told -/
def zipH (H : Hp) (L : Addr) (ps : List (V × V)) : Hp := fun a => if a = L then some (.lst ((List.range ps.length).map fun j => V.ref (L + 1 + j))) else if L < a ∧ a < L + 1 + ps.length then (ps[a - (L + 1)]?).map fun p => HO.tup [p.1, p.2] else H a
theorem zipH_L {H : Hp} {L : Addr} {ps : List (V × V)} : zipH H L ps L = some (.lst ((List.range ps.length).map fun j => V.ref (L + 1 + j))) := if_pos rfl
theorem zipH_T {H : Hp} {L j : Nat} {ps : List (V × V)} {p : V × V} (h : ps[j]? = some p) : zipH H L ps (L + 1 + j : Nat) = some (.tup [p.1, p.2]) := by
  have hj : j < ps.length := (List.getElem?_eq_some_iff.mp h).1
  unfold zipH
  have h1 : ¬ (L + 1 + j : Nat) = L := by omega
  have h2 : (L : Nat) < L + 1 + j ∧ (L + 1 + j : Nat) < L + 1 + ps.length := by omega
  have h3 : (L + 1 + j - (L + 1) : Nat) = j := by omega
  refine (if_neg h1).trans ((if_pos h2).trans ?_)
  rw [show ((L + 1 + j : Nat) - (L + 1) : Nat) = j from h3, h]
  rfl
theorem zipH_old {H : Hp} {L a : Nat} {ps : List (V × V)} (h : a < L) : zipH H L ps (a : Nat) = H a := by
  unfold zipH
  have h1 : ¬ (a : Nat) = L := by omega
  have h2 : ¬ ((L : Nat) < a ∧ (a : Nat) < L + 1 + ps.length) := by omega
  exact (if_neg h1).trans (if_neg h2)
theorem zipH_far {H : Hp} {L a : Nat} {ps : List (V × V)} (h : L + 1 + ps.length ≤ a) : zipH H L ps (a : Nat) = H a := by
  unfold zipH
  have h1 : ¬ (a : Nat) = L := by omega
  have h2 : ¬ ((L : Nat) < a ∧ (a : Nat) < L + 1 + ps.length) := by omega
  exact (if_neg h1).trans (if_neg h2)
section
variable {X : Cx} {pins : List (Addr × Obj)} {σ : L2.St} {H : Hp} {s : Shared}
def tLZ (ta : TA) : TE := fun σ H Q => ta σ H fun vs H1 => ∃ (a b : Addr) (xs ys : List V), vs = [.ref a, .ref b] ∧ H1 a = some (.tup xs) ∧ H1 b = some (.tup ys) ∧ xs.length = ys.length ∧ xs.length ≤ 1000 ∧
  ∀ S H', Ex H1 H' → H1 S = none → (∃ ts, H' S = some (.lst ts) ∧ Each (fun t (p : V × V) => IsT H' t [p.1, p.2]) ts (xs.zip ys)) → Q (.ref S) H'
theorem inv_zip {h' : Heap} {tk : Nat} {acc : Array Value} {c : Nat} {L : Nat} {ps : List (V × V)} {us vs : Nat → Value} (I : Inv X pins σ H s) (hL : s.heap.objs.size ≤ L) (k : ∀ b o, s.heap.get? b = some o → h'.get? b = some o) (hn : ps.length ≤ 1000)
    (g1 : h'.get? L = some { cls := .type "list", dict := none, data := .seq acc c, slots := #[] }) (g2 : acc = ((List.range ps.length).map fun j => Value.ref (L + 1 + j)).toArray) (g3 : ∀ j, j < ps.length → IsTupOf2 h' (L + 1 + j) (us j) (vs j))
    (r1 : ∀ j p, ps[j]? = some p → RelV p.1 (us j) ∧ RelV p.2 (vs j)) : Inv X pins σ (zipH H L ps) { s with heap := h', toks := tk } := by
  have lt : ∀ b o, s.heap.get? b = some o → b < L := fun b o e => Nat.lt_of_lt_of_le (Heap.lt_size e) hL
  have old : ∀ b o, s.heap.get? b = some o → zipH H L ps b = H b := fun b o e => zipH_old (lt b o e)
  have same : ∀ b u, H b = some u → zipH H L ps b = some u := fun b u e => by
    have hb : b < s.heap.objs.size := Nat.lt_of_not_le fun q => by
      rw [I.hok.fresh q] at e
      cases e
    rw [← e]
    exact zipH_old (Nat.lt_of_lt_of_le hb hL)
  refine I.un (t' := tk) ⟨fun b o e _ _ _ => k b o e, fun b o e _ _ _ => ⟨o.slots, k b o e⟩, fun b o e n _ => by rw [old b o e]; exact n, fun b o e _ => ⟨o, k b o e⟩, fun b xs e => same b _ e, fun b o u e => same b _ e, fun b ps e => ⟨#[], by rw [same b _ e]; simp⟩⟩ fun b u e => ?_
  by_cases hb : b = L
  · subst hb
    rw [zipH_L] at e
    cases e
    refine ⟨by rw [List.length_map, List.length_range]; exact sz _ (by omega), (List.range ps.length).map fun j => Value.ref (b + 1 + j), c, ?_, by rw [g1, g2]⟩
    exact vals_of_at (by simp) fun j x u hx hu => by
      rw [List.getElem?_map] at hx hu
      cases q : (List.range ps.length)[j]? with
      | none => rw [q] at hx; cases hx
      | some i =>
        rw [q] at hx hu
        cases hx
        cases hu
        rfl
  by_cases hb2 : (L : Nat) < b ∧ (b : Nat) < L + 1 + ps.length
  · obtain ⟨j, rfl⟩ : ∃ j : Nat, b = (L + 1 + j : Nat) := ⟨b - (L + 1), (Nat.add_sub_cancel' hb2.1).symm⟩
    have hj : j < ps.length := Nat.lt_of_add_lt_add_left hb2.2
    rw [zipH_T (List.getElem?_eq_getElem hj)] at e
    cases e
    obtain ⟨q1, q2⟩ := r1 j _ (List.getElem?_eq_getElem hj)
    exact ⟨by show 2 ≤ sizeLine; decide, [us j, vs j], .cons q1 (.cons q2 .nil), ⟨_, g3 j hj, rfl, _, rfl⟩⟩
  · have e2 : H b = some u := by
      rw [← e]
      unfold zipH
      exact ((if_neg hb).trans (if_neg hb2)).symm
    exact (I.hok b u e2).stay (fun d v hd q => k d v q) (fun d q => same d _ q) fun d xs q => same d _ q
theorem zip_get {xs ys : List V} {j : Nat} {p : V × V} (h : (xs.zip ys)[j]? = some p) : xs[j]? = some p.1 ∧ ys[j]? = some p.2 := by
  rw [List.getElem?_zip_eq_some] at h
  exact h
theorem pe_listZip {e e2 : Expr} {ta : TA} {p p2 pos pos2 : Pos} (hc : X.calm = true) (hgl : Gl X "list") (hml : X.mg "list" = none) (hg : Gl X "zip") (hm : X.mg "zip" = none) (ha : PA X [e, e2] ta)
    (hs : starEach [e, e2] X.env = (false, eval e X.env) :: starEach [e2] X.env := by rfl) (hpl : (backTo pos2 (starEach [e2] X.env)).any (·.1) = false := by rfl)
    (na : starEach [.Call (.Name "zip" p2) [e, e2] [] pos2] X.env = (false, eval (.Call (.Name "zip" p2) [e, e2] [] pos2) X.env) :: starEach [] X.env := by rfl) :
    PE X (.Call (.Name "list" p) [.Call (.Name "zip" p2) [e, e2] [] pos2] [] pos) (tLZ ta) := by
  refine ⟨fun pins s σ H Q I h => ?_⟩
  refine Call_ (ld_blt I hgl hml boot_list (PyProof.Rows.callWith_type1 (args_cons ?_ na) na))
  refine Call_ (ld_blt I hg hm PyProof.Rows.boot_zip (PyProof.Rows.callWith_type1 (thn (ha.run pos2 pins s σ H _ I h) fun us s1 ⟨vs, H1, I1, r1, q1⟩ => ?_) hs hpl))
  obtain ⟨a, b, xs, ys, rfl, hqx, hqy, hlen, hn, q⟩ := q1
  obtain ⟨u1, u2, rfl, z1, z2⟩ := vals2 r1
  cases z1
  cases z2
  obtain ⟨its, rv, t1, _⟩ := I1.tuple (SqT.of hqx)
  obtain ⟨its2, rv2, t2, _⟩ := I1.tuple (SqT.of hqy)
  have ht1 : s1.heap.IsTuple a its.toArray := t1
  have ht2 : s1.heap.IsTuple b its2.toArray := t2
  have la : a < s1.heap.objs.size := by obtain ⟨_, z, _⟩ := id ht1; exact Heap.lt_size z
  have lb : b < s1.heap.objs.size := by obtain ⟨_, z, _⟩ := id ht2; exact Heap.lt_size z
  have l1 : its.toArray.size = xs.length := by rw [List.size_toArray, ← rv.length]
  have l2 : its2.toArray.size = xs.length := by rw [List.size_toArray, ← rv2.length, hlen]
  refine RZ.call_zipT ht1 ht2 fun h' hz hTI hTO g1 g2 hsz hk => args_nil ?_
  have I2 : Inv X pins σ H1 { s1 with heap := h' } := I1.kept (t' := s1.toks) hk
  have hh : X.A.handled = none := I1.ok.hd hc
  have D1 := Draws.tuple (prog := X.prog) (w := X.w) (A := X.A.in1.in1.in1) hh s1.heap.objs.size a (Nat.ne_of_lt la) its.toArray
  have D2 := Draws.tuple (prog := X.prog) (w := X.w) (A := X.A.in1.in1.in1) hh (s1.heap.objs.size + 1) b (Nat.ne_of_lt (Nat.lt_succ_of_lt lb)) its2.toArray
  rw [l1] at D1
  rw [l2] at D2
  have lt1 : ∀ c : Nat, c ≤ s1.heap.objs.size + 1 → c < h'.objs.size := fun c hc' => by rw [hsz]; omega
  refine call_list_zip (s := { s1 with heap := h' }) (us := fun i => its.getD i .none) (vs := fun i => its2.getD i .none) (sep_m s1.heap.objs.size a b la lb) D1 D2 (fun i v hv => ?_) (fun i v hv => ?_) hz hTI ⟨_, _, hTO⟩ ⟨g1, ht1.at fun o e => hk _ _ e⟩ ⟨g2, ht2.at fun o e => hk _ _ e⟩ (fun c hc' => ?_) (fun c hc' => ?_) hn fun h2 tk acc c kp m1 m2 m3 => ?_
  · have : its[i]? = some v := by simpa using hv
    show v = its.getD i .none
    rw [List.getD_eq_getElem?_getD, this]
    rfl
  · have : its2[i]? = some v := by simpa using hv
    show v = its2.getD i .none
    rw [List.getD_eq_getElem?_getD, this]
    rfl
  · rcases List.mem_cons.mp hc' with z | z
    · rw [z]; exact lt1 _ (by omega)
    · rw [List.mem_singleton.mp z]; exact lt1 _ (Nat.le_of_lt (Nat.lt_succ_of_lt la))
  · rcases List.mem_cons.mp hc' with z | z
    · rw [z]; exact lt1 _ (by omega)
    · rw [List.mem_singleton.mp z]; exact lt1 _ (Nat.le_of_lt (Nat.lt_succ_of_lt lb))
  have hzl : (xs.zip ys).length = xs.length := by rw [List.length_zip, ← hlen, Nat.min_self]
  have nn : ∀ (b : Addr) (o : Obj) (j : Nat), s1.heap.get? b = some o → b ≠ (s1.heap.objs.size + j : Nat) := fun b o j e q => by
    have := Heap.lt_size e
    rw [q] at this
    exact absurd this (Nat.not_lt.mpr (Nat.le_add_right _ _))
  have J := inv_zip (ps := xs.zip ys) (L := h'.objs.size) (h' := h2) (tk := tk) (acc := acc) (c := c) (us := fun i => its.getD i .none) (vs := fun i => its2.getD i .none) I1 (by rw [hsz]; exact Nat.le_add_right _ _)
    (fun b o e => kp b o (nn b o 4 e) (nn b o 3 e) (nn b o 0 e) (nn b o 1 e) (hk b o e)) (by rw [hzl]; exact hn) m1 (by rw [hzl]; exact m2) (by rw [hzl]; exact m3) fun j p hp => by
      obtain ⟨p1, p2⟩ := zip_get hp
      obtain ⟨w1, e1, r1⟩ := rv.get p1
      obtain ⟨w2, e2, r2⟩ := rv2.get p2
      have f1 : its.getD j .none = w1 := by rw [List.getD_eq_getElem?_getD, e1]; rfl
      have f2 : its2.getD j .none = w2 := by rw [List.getD_eq_getElem?_getD, e2]; rfl
      exact ⟨by show RelV p.1 (its.getD j .none); rw [f1]; exact r1, by show RelV p.2 (its2.getD j .none); rw [f2]; exact r2⟩
  refine ⟨.ref h'.objs.size, _, J, rfl, q _ _ ?_ (I2.hok.fresh (Nat.le_refl _)) ⟨_, zipH_L, by rw [List.length_map, List.length_range], fun i x d hx hd => ?_⟩⟩
  · intro b o hb
    have hb2 : b < s1.heap.objs.size := Nat.lt_of_not_le fun q => by
      rw [I1.hok.fresh q] at hb
      cases hb
    have e : zipH H1 h'.objs.size (xs.zip ys) b = some o := by
      rw [← hb]
      exact zipH_old (Nat.lt_of_lt_of_le hb2 (by rw [hsz]; exact Nat.le_add_right _ _))
    exact ⟨fun _ => e, fun ps z => ⟨ps, by rw [e, z], id⟩⟩
  · have hi : i < (xs.zip ys).length := (List.getElem?_eq_some_iff.mp hd).1
    rw [List.getElem?_map, List.getElem?_range hi] at hx
    cases hx
    exact ⟨_, rfl, zipH_T hd⟩
end
end K7

set_option Elab.async false
set_option linter.all false
set_option maxRecDepth 100000
set_option maxHeartbeats 4000000
namespace K7
open PySem PySem.Spec PyProof.Rows L2
variable {P : Program} {w : World} {K : PySem.W.Frag} {mg : Str → Option Value} {base : Heap}
/-! is_whole -/
/-- the kinds of value that are asked -/
inductive Kind where
  | int (n : Int) | tup (xs : List V) | lst (xs : List V) | non
def KindV (H : Hp) (v : V) : Kind → Prop
  | .int n => v = .int n
  | .tup xs => IsT H v xs
  | .lst xs => IsL H v xs
  | .non => v = .non
theorem KindV.mono {H H' : Hp} {v : V} {k : Kind} (e : Ex H H') (h : KindV H v k) : KindV H' v k := by
  cases k with
  | int n => exact h
  | tup xs => exact IsT.mono e h
  | lst xs => exact IsL.mono e h
  | non => exact h
def Kind.ty : Kind → String
  | .int _ => "int" | .tup _ => "tuple" | .lst _ => "list" | .non => "NoneType"
theorem KindV.tyx {H : Hp} {v : V} {k : Kind} (h : KindV H v k) : TyX K H v (.type k.ty) := by
  cases k with
  | int n => cases h; exact .base (.int n)
  | tup xs => obtain ⟨p, rfl, e⟩ := h; exact .base (.tup e)
  | lst xs => obtain ⟨p, rfl, e⟩ := h; exact .base (.lst e)
  | non => cases h; exact .base .non
def Kind.isInt : Kind → Bool
  | .int _ => true | _ => false
def Kind.isTup : Kind → Bool
  | .tup _ => true | _ => false
theorem kt (a b : String) (r : Bool) (h : kitB a b = some r) : PySem.W.kitOne K (.type a) (.type b) = some r := kit_ty h
theorem kit_int (k : Kind) : PySem.W.kitOne K (.type k.ty) (.type "int") = some k.isInt := by
  cases k
  · exact kt "int" "int" true (by decide +kernel)
  · exact kt "tuple" "int" false (by decide +kernel)
  · exact kt "list" "int" false (by decide +kernel)
  · exact kt "NoneType" "int" false (by decide +kernel)
theorem kit_bool (k : Kind) : PySem.W.kitOne K (.type k.ty) (.type "bool") = some false := by
  cases k
  · exact kt "int" "bool" false (by decide +kernel)
  · exact kt "tuple" "bool" false (by decide +kernel)
  · exact kt "list" "bool" false (by decide +kernel)
  · exact kt "NoneType" "bool" false (by decide +kernel)
theorem kit_tup (k : Kind) : PySem.W.kitOne K (.type k.ty) (.type "tuple") = some k.isTup := by
  cases k
  · exact kt "int" "tuple" false (by decide +kernel)
  · exact kt "tuple" "tuple" true (by decide +kernel)
  · exact kt "list" "tuple" false (by decide +kernel)
  · exact kt "NoneType" "tuple" false (by decide +kernel)
def sp_is_whole : Sp := fun vs H Q _ => ∃ v k, vs = [v] ∧ KindV H v k ∧ RetV (.bl k.isInt) H Q
theorem sc_is_whole : FnScope ["value"] ["value"] (defScope s_is_whole) := ⟨rfl, rfl, rfl, by decide +kernel, rfl, by decide +kernel, by decide +kernel⟩
theorem h_is_whole (T : Top K mg) : Has P w K mg base "is_whole" 1 ["value"] sp_is_whole := by
  refine has_mk T 0 rfl rfl sc_is_whole (fun _ _ _ _ _ _ us hl => match us, hl with | [_], _ => rfl) ?len fun f cdv A outer s H vs Q E hr h => ?main
  case len =>
    rintro vs H Q E ⟨v, k, rfl, _⟩
    rfl
  obtain ⟨v, k, rfl, hk, q⟩ := h
  refine ⟨_, (pss_one (ps_ret (pe_and (pe_callB call_isi (by rfl) T.m_isinstance (by decide +kernel) (pa_cons (pv 0) (pa_cons (pe_bltn (v := .ty "int") (by rfl) T.m_int (by decide +kernel) rfl) pa_nil))) (pe_one (pe_not (pe_callB call_isi (by rfl) T.m_isinstance (by decide +kernel) (pa_cons (pv 0) (pa_cons (pe_bltn (v := .ty "bool") (by rfl) T.m_bool (by decide +kernel) rfl) pa_nil)))))))), ?_⟩
  refine ⟨_, rfl, _, _, _, _, _, rfl, .ty _, hk.tyx, kit_int k, _, rfl, ?_⟩
  refine ite2 (fun e => ?_) (fun e => ?_)
  · refine ⟨_, rfl, _, _, _, _, _, rfl, .ty _, hk.tyx, kit_bool k, _, rfl, ?_⟩
    exact q _ _ (Ex.refl _) (by rw [e]; rfl)
  · exact q _ _ (Ex.refl _) (by rw [Bool.eq_false_iff.mpr e])
/-- the number within it, if it is one -/
def Kind.num : Kind → Int
  | .int n => n | _ => 0
theorem KindV.num {H : Hp} {v : V} {k : Kind} (h : KindV H v k) (i : k.isInt = true) : v = .int k.num := by
  cases k with
  | int n => exact h
  | _ => cases i
def sp_is_integer : Sp := fun vs H Q _ => ∃ v k, vs = [v] ∧ KindV H v k ∧ RetV (.bl (k.isInt && decide ((if k.num < 0 then -k.num else k.num) < 10 ^ 60))) H Q
theorem sc_is_integer : FnScope ["value"] ["value"] (defScope s_is_integer) := ⟨rfl, rfl, rfl, by decide +kernel, rfl, by decide +kernel, by decide +kernel⟩
theorem h_is_integer (T : Top K mg) (h_is_whole : Has P w K mg base "is_whole" 1 ["value"] sp_is_whole) : Has P w K mg base "is_integer" 2 ["value"] sp_is_integer := by
  refine has_mk T 1 rfl rfl sc_is_integer (fun _ _ _ _ _ _ us hl => match us, hl with | [_], _ => rfl) ?len fun f cdv A outer s H vs Q E hr h => ?main
  case len =>
    rintro vs H Q E ⟨v, k, rfl, _⟩
    rfl
  obtain ⟨v, k, rfl, hk, q⟩ := h
  refine ⟨_, (pss_one (ps_ret (pe_and (pe_has h_is_whole (hr.mono (by decide)) (pa_cons (pv 0) pa_nil)) (pe_one (pe_cmpR op_lt (pe_callB call_abs (by rfl) T.m_abs (by decide +kernel) (pa_cons (pv 0) pa_nil)) (pe_gi T.k_SIXTY_DIGITS) (nomark _)))))), ?_⟩
  refine ⟨_, rfl, v, k, rfl, hk, ?_⟩
  rintro _ H1 e1 rfl
  refine ⟨_, rfl, ite2 (fun e => ?_) (fun e => ?_)⟩
  · have hv := hk.num e
    subst hv
    refine ⟨_, rfl, _, rfl, _, _, rfl, rfl, ?_⟩
    exact q _ _ e1 (by rw [e]; rfl)
  · exact q _ _ e1 (by rw [Bool.eq_false_iff.mpr e]; rfl)
def sp_is_within : Sp := fun vs H Q _ => ∃ v k lo hi, vs = [v, .int lo, .int hi] ∧ KindV H v k ∧ RetV (.bl (k.isInt && (decide (lo ≤ k.num) && decide (k.num ≤ hi)))) H Q
theorem sc_is_within : FnScope ["value", "least", "most"] ["value", "least", "most"] (defScope s_is_within) := ⟨rfl, rfl, rfl, by decide +kernel, rfl, by decide +kernel, by decide +kernel⟩
theorem h_is_within (T : Top K mg) (h_is_whole : Has P w K mg base "is_whole" 1 ["value"] sp_is_whole) : Has P w K mg base "is_within" 2 ["value", "least", "most"] sp_is_within := by
  refine has_mk T 2 rfl rfl sc_is_within (fun _ _ _ _ _ _ us hl => match us, hl with | [_, _, _], _ => rfl) ?len fun f cdv A outer s H vs Q E hr h => ?main
  case len =>
    rintro vs H Q E ⟨v, k, _, _, rfl, _⟩
    rfl
  obtain ⟨v, k, lo, hi, rfl, hk, q⟩ := h
  refine ⟨_, (pss_one (ps_ret (pe_and (pe_has h_is_whole (hr.mono (by decide)) (pa_cons (pv 0) pa_nil)) (pe_one (pe_chain op_le op_le (pv 1) (pv 0) (pv 2)))))), ?_⟩
  refine ⟨_, rfl, v, k, rfl, hk, ?_⟩
  rintro _ H1 e1 rfl
  refine ⟨_, rfl, ite2 (fun e => ?_) (fun e => ?_)⟩
  · have hv := hk.num e
    subst hv
    refine ⟨_, rfl, _, rfl, _, _, rfl, rfl, _, rfl, ite2 (fun e2 => ?_) (fun e2 => ?_)⟩
    · refine ⟨_, rfl, _, _, rfl, rfl, ?_⟩
      exact q _ _ e1 (by rw [e, show decide (lo ≤ k.num) = true from e2]; rfl)
    · exact q _ _ e1 (by rw [e, show decide (lo ≤ k.num) = false from Bool.eq_false_iff.mpr e2]; rfl)
  · exact q _ _ e1 (by rw [Bool.eq_false_iff.mpr e]; rfl)
/-- a ring as it should be -/
def okR (r : Rg) : Prop := 2 ≤ r.1 ∧ r.1 ≤ 60 ∧ 1 ≤ r.2 ∧ r.2 ≤ r.1 - 1
theorem atI0 {x : V} {r : List V} : atI (x :: r) 0 = some x := atI_nat (j := 0) rfl
theorem atI1 {x y : V} {r : List V} : atI (x :: y :: r) 1 = some y := atI_nat (j := 1) rfl
def sp_is_ring_in : Sp := fun vs H Q _ => ∃ v r, vs = [v] ∧ IsR H v r ∧ okR r ∧ RetV (.bl true) H Q
theorem sc_is_ring_in : FnScope ["value"] ["value"] (defScope s_is_ring_in) := ⟨rfl, rfl, rfl, by decide +kernel, rfl, by decide +kernel, by decide +kernel⟩
theorem h_is_ring_in (T : Top K mg) (h_is_within : Has P w K mg base "is_within" 2 ["value", "least", "most"] sp_is_within) : Has P w K mg base "is_ring_in" 3 ["value"] sp_is_ring_in := by
  refine has_mk T 3 rfl rfl sc_is_ring_in (fun _ _ _ _ _ _ us hl => match us, hl with | [_], _ => rfl) ?len fun f cdv A outer s H vs Q E hr h => ?main
  case len =>
    rintro vs H Q E ⟨v, r, rfl, _⟩
    rfl
  obtain ⟨v, r, rfl, hR, ⟨o1, o2, o3, o4⟩, q⟩ := h
  obtain ⟨p, rfl, hp⟩ := id hR
  refine ⟨_, (pss_cons (ps_if (PW.pt (pw_or (pt_not (pt_val (pe_callB call_isi (by rfl) T.m_isinstance (by decide +kernel) (pa_cons (pv 0) (pa_cons (pe_bltn (v := .ty "tuple") (by rfl) T.m_tuple (by decide +kernel) rfl) pa_nil))))) (pw_or (pt_cmpR op_ne (pe_callB call_len_seq (by rfl) T.m_len PySem.boot_len (pa_cons (pv 0) pa_nil)) pe_int (nomark _)) (pw_or1 (pt_not (pt_val (pe_has h_is_within (hr.mono (by decide)) (pa_cons (pe_ix ix_tup (pv 0) pe_int (fun _ _ => rfl)) (pa_cons pe_int (pa_cons (pe_gi T.k_MOST_PLACES) pa_nil)))))))))) (pss_one (ps_ret pe_bl)) pss_nil) (pss_one (ps_ret (pe_has h_is_within (hr.mono (by decide)) (pa_cons (pe_ix ix_tup (pv 0) pe_int (fun _ _ => rfl)) (pa_cons pe_int (pa_cons (pe_op op_sub (pe_ix ix_tup (pv 0) pe_int (fun _ _ => rfl)) pe_int) pa_nil))))))), ?_⟩
  have hk : KindV H (.ref p) (.tup [.int r.1, .int r.2]) := hR
  refine ⟨_, rfl, _, _, _, _, _, rfl, .ty _, hk.tyx, kit_tup _, _, rfl, iteF ?_⟩
  refine ⟨_, rfl, p, _, rfl, .inr (SqT.of hp), rfl, _, rfl, iteF ?_⟩
  refine ⟨_, rfl, p, _, _, _, rfl, rfl, SqT.of hp, atI0, _, .int r.1, _, _, rfl, rfl, ?_⟩
  rintro _ H1 e1 rfl
  have c1 : ((Kind.int r.1).isInt && (decide (2 ≤ (Kind.int r.1).num) && decide ((Kind.int r.1).num ≤ 60))) = true := by
    show (true && (decide (2 ≤ r.1) && decide (r.1 ≤ 60))) = true
    rw [decide_eq_true o1, decide_eq_true o2]
    rfl
  rw [c1]
  refine ⟨_, rfl, iteF ?_⟩
  have hp1 := e1.tup hp
  refine ⟨_, rfl, p, _, _, _, rfl, rfl, SqT.of hp1, atI1, _, rfl, p, _, _, _, rfl, rfl, SqT.of hp1, atI0, _, _, rfl, rfl, _, .int r.2, _, _, rfl, rfl, ?_⟩
  rintro _ H2 e2 rfl
  refine q _ _ (e1.trans e2) ?_
  show V.bl (true && (decide (1 ≤ r.2) && decide (r.2 ≤ r.1 - 1))) = _
  rw [decide_eq_true o3, decide_eq_true o4]
  rfl
end K7

set_option Elab.async false
set_option linter.all false
set_option maxRecDepth 100000
set_option maxHeartbeats 4000000
namespace K7
open PySem PySem.Spec PyProof.Rows L2
variable {P : Program} {w : World} {K : PySem.W.Frag} {mg : Str → Option Value} {base : Heap}
def okC (rs : List Rg) : Prop := 1 ≤ rs.length ∧ rs.length ≤ 12 ∧ ∀ r ∈ rs, okR r
theorem all_true (n : Nat) : (((List.range n).map fun _ => true).all id) = true := by
  rw [List.all_eq_true]
  intro x hx
  obtain ⟨_, _, rfl⟩ := List.mem_map.mp hx
  rfl
theorem IsR.tm {H H' : Hp} {v : V} {r : Rg} (e : TEx H H') (h : IsR H v r) : IsR H' v r := IsT.tm e h
def sp_is_chain_in : Sp := fun vs H Q _ => ∃ v rs, vs = [v] ∧ IsC H v rs ∧ okC rs ∧ RetV (.bl true) H Q
theorem sc_is_chain_in : FnScope ["value", "ring"] ["value"] (defScope s_is_chain_in) := ⟨rfl, rfl, rfl, by decide +kernel, rfl, by decide +kernel, by decide +kernel⟩
theorem h_is_chain_in (T : Top K mg) (h_is_ring_in : Has P w K mg base "is_ring_in" 3 ["value"] sp_is_ring_in) : Has P w K mg base "is_chain_in" 4 ["value"] sp_is_chain_in := by
  refine has_mk T 4 rfl rfl sc_is_chain_in (fun _ _ _ _ _ _ us hl => match us, hl with | [_], _ => rfl) ?len fun f cdv A outer s H vs Q E hr h => ?main
  case len =>
    rintro vs H Q E ⟨v, r, rfl, _⟩
    rfl
  obtain ⟨v, rs, rfl, ⟨xs, ⟨p, rfl, hp⟩, he⟩, ⟨o1, o2, o3⟩, q⟩ := h
  obtain ⟨hl, hx⟩ := id he
  refine ⟨_, (pss_one (ps_ret (pe_and (pe_callB call_isi (by rfl) T.m_isinstance (by decide +kernel) (pa_cons (pv 0) (pa_cons (pe_bltn (v := .ty "tuple") (by rfl) T.m_tuple (by decide +kernel) rfl) pa_nil))) (pe_and (pe_chain op_le op_le pe_int (pe_callB call_len_seq (by rfl) T.m_len PySem.boot_len (pa_cons (pv 0) pa_nil)) (pe_gi T.k_MOST_RINGS)) (pe_one (pe_callB (cr_all rfl) (by rfl) T.m_all (by decide +kernel) (pa_cons (pe_lc rfl sc_is_chain_in.nd (pi_tup (pv 0)) (blkOk_by (own := [("ring", 1)]) (N := ["value", "ring"]) (sc := (defScope s_is_chain_in)) (by decide +kernel)) (fun _ _ _ _ _ => (pg_name (i := 1) sc_is_chain_in.nd rfl (by first | exact Or.inl rfl | exact Or.inr rfl))) (fun _ _ _ _ _ => pts_nil) (fun _ _ _ _ _ => (pe_has h_is_ring_in (hr.mono (by decide)) (pa_cons (pv 1) pa_nil)))) pa_nil))))))), ?_⟩
  have hk : KindV H (.ref p) (.tup xs) := ⟨p, rfl, hp⟩
  refine ⟨_, rfl, _, _, _, _, _, rfl, .ty _, hk.tyx, kit_tup _, _, rfl, iteT ?_⟩
  refine ⟨_, rfl, p, _, rfl, .inr (SqT.of hp), 1, (xs.length : Int), rfl, rfl, _, rfl, ?_⟩
  rw [show decide ((1 : Int) ≤ (xs.length : Int)) = true from decide_eq_true (by omega)]
  refine iteT ⟨(xs.length : Int), 12, rfl, rfl, _, rfl, ?_⟩
  rw [show decide ((xs.length : Int) ≤ 12) = true from decide_eq_true (by omega)]
  refine iteT ?_
  refine ⟨_, rfl, p, rfl, ⟨_, SqT.of hp⟩, lc_all (walk_tup (K := K) (xs := xs)) (by omega) (fun H' e => SqT.of (e.tup hp)) (fun _ v (d : Bool) => v = .bl d) (fun _ _ _ _ _ h => h) (fun _ => true) (gm1 _) ?_ ?_⟩
  · rintro i x H' H'' hi e1 ⟨rfl, hxi⟩ S hS
    obtain ⟨r, hr1, hr2⟩ := he.at' hxi
    refine ⟨rfl, _, rfl, x, r, rfl, IsT.mono e1 hr2, o3 r (List.mem_of_getElem? hr1), ?_⟩
    rintro _ H3 e3 rfl
    exact hS _ _ e3 rfl
  · intro D H' ys nD e1 hD hE
    refine ⟨D, _, rfl, SqL.of (show H' D = some (.lst (((List.range xs.length).map fun _ => true).map V.bl)) by rw [hD, each_bl hE]), ?_⟩
    rw [all_true]
    exact q _ _ e1 rfl
def gcdI (a b : Int) : Int := ((Nat.gcd a.natAbs b.natAbs : Nat) : Int)
/-- the order of a ring -/
def ordR (r : Rg) : Int := r.1.fdiv (gcdI r.1 r.2)
theorem gcd_pos {r : Rg} (h : okR r) : gcdI r.1 r.2 ≠ 0 ∧ (gcdI r.1 r.2).natAbs < 1073741824 := by
  obtain ⟨a, b, c, d⟩ := h
  have h1 : 0 < Nat.gcd r.1.natAbs r.2.natAbs := Nat.gcd_pos_of_pos_left _ (by omega)
  have h2 : Nat.gcd r.1.natAbs r.2.natAbs ≤ r.1.natAbs := Nat.gcd_le_left _ (by omega)
  unfold gcdI
  constructor
  · omega
  · rw [Int.natAbs_natCast]
    omega
def sp_order_in : Sp := fun vs H Q _ => ∃ v r, vs = [v] ∧ IsR H v r ∧ okR r ∧ RetV (.int (ordR r)) H Q
theorem sc_order_in : FnScope ["ring"] ["ring"] (defScope s_order_in) := ⟨rfl, rfl, rfl, by decide +kernel, rfl, by decide +kernel, by decide +kernel⟩
theorem h_order_in (T : Top K mg) : Has P w K mg base "order_in" 1 ["ring"] sp_order_in := by
  refine has_mk T 5 rfl rfl sc_order_in (fun _ _ _ _ _ _ us hl => match us, hl with | [_], _ => rfl) ?len fun f cdv A outer s H vs Q E hr h => ?main
  case len =>
    rintro vs H Q E ⟨v, r, rfl, _⟩
    rfl
  obtain ⟨v, r, rfl, ⟨p, rfl, hp⟩, ok, q⟩ := h
  refine ⟨_, (pss_one (ps_ret (pe_op op_fdivN (pe_ix ix_tup (pv 0) pe_int (fun _ _ => rfl)) (pe_callBfun cr_gcd (by rfl) T.gcd (pa_cons (pe_ix ix_tup (pv 0) pe_int (fun _ _ => rfl)) (pa_cons (pe_ix ix_tup (pv 0) pe_int (fun _ _ => rfl)) pa_nil)))))), ?_⟩
  refine ⟨_, rfl, p, _, _, _, rfl, rfl, SqT.of hp, atI0, _, rfl, p, _, _, _, rfl, rfl, SqT.of hp, atI0, _, rfl, p, _, _, _, rfl, rfl, SqT.of hp, atI1, _, _, rfl, _, _, rfl, rfl, gcd_pos ok, ?_⟩
  exact q _ _ (Ex.refl _) rfl
/-! round maps, as lists of numbers -/
/-- the i-th of a list of numbers, 0 where there is none -/
def nth (ns : List Int) (i : Int) : Int := ns.getD i.toNat 0
theorem nth_at {ns : List Int} {i : Int} (h0 : 0 ≤ i) (h1 : i < ns.length) : atI (iv ns) i = some (.int (nth ns i)) := by
  obtain ⟨j, rfl⟩ : ∃ j : Nat, i = (j : Int) := ⟨i.toNat, by omega⟩
  refine atI_nat (at_iv ?_)
  unfold nth
  rw [List.getD_eq_getElem?_getD, Int.toNat_natCast, List.getElem?_eq_getElem (by omega)]
  rfl
def vir (ns : List Int) (i : Int) : Int := nth ns (i.fmod ns.length) + i - i.fmod ns.length
theorem fmod_in (i : Int) {m : Int} (h : 0 < m) : 0 ≤ i.fmod m ∧ i.fmod m < m := by
  rw [Int.fmod_eq_emod_of_nonneg _ (Int.le_of_lt h)]
  exact ⟨Int.emod_nonneg _ (by omega), Int.emod_lt_of_pos _ h⟩
def sp_value_in_round : Sp := fun vs H Q _ => ∃ v ns i, vs = [v, .int i] ∧ IsT H v (iv ns) ∧ 0 < ns.length ∧ RetV (.int (vir ns i)) H Q
theorem sc_value_in_round : FnScope ["values", "i", "rest"] ["values", "i"] (defScope s_value_in_round) := ⟨rfl, rfl, rfl, by decide +kernel, rfl, by decide +kernel, by decide +kernel⟩
theorem h_value_in_round (T : Top K mg) : Has P w K mg base "value_in_round" 1 ["values", "i"] sp_value_in_round := by
  refine has_mk T 7 rfl rfl sc_value_in_round (fun _ _ _ _ _ _ us hl => match us, hl with | [_, _], _ => rfl) ?len fun f cdv A outer s H vs Q E hr h => ?main
  case len =>
    rintro vs H Q E ⟨v, ns, i, rfl, _⟩
    rfl
  obtain ⟨v, ns, i, rfl, ⟨p, rfl, hp⟩, hl, q⟩ := h
  refine ⟨_, (pss_cons (ps_set (i := 2) sc_value_in_round.nd rfl (by first | exact Or.inl rfl | exact Or.inr rfl) (pe_op op_modN (pv 1) (pe_callB call_len_seq (by rfl) T.m_len PySem.boot_len (pa_cons (pv 0) pa_nil)))) (pss_one (ps_ret (pe_op op_sub (pe_op op_add (pe_ix ix_tup (pv 0) (pv 2) (fun _ _ => rfl)) (pv 1)) (pv 2))))), ?_⟩
  have hm : (0 : Int) < ns.length := by omega
  have h2 := fmod_in i hm
  refine ⟨_, rfl, _, rfl, p, _, rfl, .inr (SqT.of hp), _, _, rfl, rfl, by rw [iv_len]; omega, ?_⟩
  rw [iv_len]
  refine ⟨_, rfl, _, rfl, p, _, _, _, rfl, rfl, SqT.of hp, nth_at h2.1 h2.2, _, rfl, _, _, rfl, rfl, _, rfl, _, _, rfl, rfl, ?_⟩
  exact q _ _ (Ex.refl _) rfl
def falls (ns : List Int) (i : Int) : Bool := decide (vir ns (i + 1) < nth ns i)
def sp_does_fall : Sp := fun vs H Q _ => ∃ v ns i, vs = [v, .int i] ∧ IsT H v (iv ns) ∧ 0 ≤ i ∧ i < ns.length ∧ RetV (.bl (falls ns i)) H Q
theorem sc_does_fall : FnScope ["values", "place"] ["values", "place"] (defScope s_does_fall) := ⟨rfl, rfl, rfl, by decide +kernel, rfl, by decide +kernel, by decide +kernel⟩
theorem h_does_fall (T : Top K mg) (h_value_in_round : Has P w K mg base "value_in_round" 1 ["values", "i"] sp_value_in_round) : Has P w K mg base "does_fall" 2 ["values", "place"] sp_does_fall := by
  refine has_mk T 9 rfl rfl sc_does_fall (fun _ _ _ _ _ _ us hl => match us, hl with | [_, _], _ => rfl) ?len fun f cdv A outer s H vs Q E hr h => ?main
  case len =>
    rintro vs H Q E ⟨v, ns, i, rfl, _⟩
    rfl
  obtain ⟨v, ns, i, rfl, ⟨p, rfl, hp⟩, h0, h1, q⟩ := h
  refine ⟨_, (pss_one (ps_ret (pe_cmpR op_gt (pe_ix ix_tup (pv 0) (pv 1) (fun _ _ => rfl)) (pe_has h_value_in_round (hr.mono (by decide)) (pa_cons (pv 0) (pa_cons (pe_op op_add (pv 1) pe_int) pa_nil))) (nomark _)))), ?_⟩
  refine ⟨_, rfl, _, rfl, p, _, _, _, rfl, rfl, SqT.of hp, nth_at h0 h1, _, rfl, _, rfl, _, _, rfl, rfl, _, ns, _, rfl, ⟨p, rfl, hp⟩, by omega, ?_⟩
  rintro _ H1 e1 rfl
  exact ⟨_, _, rfl, rfl, q _ _ e1 rfl⟩
end K7

set_option Elab.async false
set_option linter.all false
set_option maxRecDepth 100000
set_option maxHeartbeats 4000000
namespace K7
open PySem PySem.Spec PyProof.Rows L2
variable {P : Program} {w : World} {K : PySem.W.Frag} {mg : Str → Option Value} {base : Heap}
/-! a letter done -/
def lb (ns : List Int) (c : Int) : List Int :=
  if c < ns.length - 1 then (ns.set c.toNat (nth ns (c + 1))).set (c + 1).toNat (nth ns c)
  else (ns.set c.toNat (nth ns 0 + ns.length)).set 0 (nth ns c - ns.length)
theorem iv_set (ns : List Int) (i : Nat) (n : Int) : (iv ns).set i (.int n) = iv (ns.set i n) := (List.map_set).symm
theorem ixN_in {n : Nat} {i : Int} (h0 : 0 ≤ i) (h1 : i < n) : ixN n i = some i.toNat := by
  unfold ixN
  rw [if_pos (by omega), if_pos (by omega)]
def sp_letter_behind : Sp := fun vs H Q _ => ∃ v ns c, vs = [v, .int c] ∧ IsT H v (iv ns) ∧ 0 ≤ c ∧ c < ns.length ∧ 1 < ns.length ∧ ns.length ≤ 60 ∧ Ret (fun u H' => IsT H' u (iv (lb ns c))) H Q
theorem sc_letter_behind : FnScope ["values", "place", "found", "size"] ["values", "place"] (defScope s_letter_behind) := ⟨rfl, rfl, rfl, by decide +kernel, rfl, by decide +kernel, by decide +kernel⟩
theorem h_letter_behind (T : Top K mg) : Has P w K mg base "letter_behind" 1 ["values", "place"] sp_letter_behind := by
  refine has_mk T 8 rfl rfl sc_letter_behind (fun _ _ _ _ _ _ us hl => match us, hl with | [_, _], _ => rfl) ?len fun f cdv A outer s H vs Q E hr h => ?main
  case len =>
    rintro vs H Q E ⟨v, ns, c, rfl, _⟩
    rfl
  obtain ⟨v, ns, c, rfl, ⟨p, rfl, hp⟩, h0, h1, h2, h3, q⟩ := h
  refine ⟨_, (pss_cons (ps_par (i := 2) (j := 3) (by rfl) sc_letter_behind.nd rfl rfl (by decide) rfl rfl (pa_cons (pe_callTy call_list_of (by rfl) T.m_list (by decide +kernel) (pa_cons (pv 0) pa_nil)) (pa_cons (pe_callB call_len_seq (by rfl) T.m_len PySem.boot_len (pa_cons (pv 0) pa_nil)) pa_nil)) (by rfl)) (pss_cons (ps_if (pt_cmpR op_lt (pv 1) (pe_op op_sub (pv 3) pe_int) (nomark _)) (pss_one (ps_asg (pe_tup (pa_cons (pe_ix ix_tup (pv 0) (pe_op op_add (pv 1) pe_int) (fun _ _ => rfl)) (pa_cons (pe_ix ix_tup (pv 0) (pv 1) (fun _ _ => rfl)) pa_nil))) (pg_tup rfl (pgs_cons (pg_sub (pv 2) (pv 1) set_list) (pgs_cons (pg_sub (pv 2) (pe_op op_add (pv 1) pe_int) set_list) pgs_nil))))) (pss_one (ps_asg (pe_tup (pa_cons (pe_op op_add (pe_ix ix_tup (pv 0) pe_int (fun _ _ => rfl)) (pv 3)) (pa_cons (pe_op op_sub (pe_ix ix_tup (pv 0) (pv 1) (fun _ _ => rfl)) (pv 3)) pa_nil))) (pg_tup rfl (pgs_cons (pg_sub (pv 2) (pv 1) set_list) (pgs_cons (pg_sub (pv 2) pe_int set_list) pgs_nil)))))) (pss_one (ps_ret (pe_callTy call_tuple_of (by rfl) T.m_tuple (by decide +kernel) (pa_cons (pv 2) pa_nil)))))), ?_⟩
  refine ⟨_, rfl, p, _, rfl, .inr (SqT.of hp), fun l nl => ?_⟩
  have e1 : Ex H (upd H l (.lst (iv ns))) := Ex.new nl
  have hp1 := e1.tup hp
  refine ⟨_, rfl, p, _, rfl, .inr (SqT.of hp1), _, _, rfl, ?_⟩
  rw [iv_len]
  refine ⟨_, rfl, _, rfl, _, _, rfl, rfl, _, _, rfl, rfl, _, rfl, ite2 (fun e => ?_) (fun e => ?_)⟩
  · have hc : c < ns.length - 1 := of_decide_eq_true e
    refine ⟨_, rfl, _, rfl, _, _, rfl, rfl, p, _, _, _, rfl, rfl, SqT.of hp1, nth_at (by omega) (by omega), _, rfl, _, rfl, p, _, _, _, rfl, rfl, SqT.of hp1, nth_at h0 h1, by show 2 ≤ sizeLine; decide, fun t nt => ?_⟩
    have e2 := e1.trans (Ex.new (o := .tup [.int (nth ns (c + 1)), .int (nth ns c)]) nt)
    have hl : (upd (upd H l (.lst (iv ns))) t (.tup [.int (nth ns (c + 1)), .int (nth ns c)])) l = some (.lst (iv ns)) := by
      rw [upd_ne (ne_of_none upd_same nt), upd_same]
    have tl : t ≠ l := fun z => by
      rw [z, upd_same] at nt
      cases nt
    refine ⟨t, _, rfl, SqT.of upd_same, rfl, _, _, rfl, _, rfl, _, rfl, l, _, c, c.toNat, rfl, rfl, hl, ixN_in h0 (by rw [iv_len]; exact h1), _, _, rfl, _, rfl, _, rfl, _, _, rfl, rfl, l, _, c + 1, (c + 1).toNat, rfl, rfl, upd_same, ixN_in (by omega) (by rw [List.length_set, iv_len]; omega), rfl, ?_⟩
    rw [upd_upd, iv_set, iv_set]
    refine ⟨_, rfl, l, _, rfl, .inl ⟨SqL.of upd_same, fun r nr => ?_⟩⟩
    refine q _ _ ((e2.mut nl).trans (Ex.new nr)) ⟨r, rfl, ?_⟩
    rw [upd_same]
    unfold lb
    rw [if_pos hc]
  · have hc : ¬ c < ns.length - 1 := fun z => e (decide_eq_true z)
    refine ⟨_, rfl, p, _, _, _, rfl, rfl, SqT.of hp1, nth_at (i := 0) (by omega) (by omega), _, rfl, _, _, rfl, rfl, _, rfl, _, rfl, p, _, _, _, rfl, rfl, SqT.of hp1, nth_at h0 h1, _, rfl, _, _, rfl, rfl, by show 2 ≤ sizeLine; decide, fun t nt => ?_⟩
    have e2 := e1.trans (Ex.new (o := .tup [.int (nth ns 0 + ns.length), .int (nth ns c - ns.length)]) nt)
    have hl : (upd (upd H l (.lst (iv ns))) t (.tup [.int (nth ns 0 + ns.length), .int (nth ns c - ns.length)])) l = some (.lst (iv ns)) := by
      rw [upd_ne (ne_of_none upd_same nt), upd_same]
    refine ⟨t, _, rfl, SqT.of upd_same, rfl, _, _, rfl, _, rfl, _, rfl, l, _, c, c.toNat, rfl, rfl, hl, ixN_in h0 (by rw [iv_len]; exact h1), _, _, rfl, _, rfl, l, _, 0, 0, rfl, rfl, upd_same, ixN_in (i := 0) (by omega) (by rw [List.length_set, iv_len]; omega), rfl, ?_⟩
    rw [upd_upd, iv_set, iv_set]
    refine ⟨_, rfl, l, _, rfl, .inl ⟨SqL.of upd_same, fun r nr => ?_⟩⟩
    refine q _ _ ((e2.mut nl).trans (Ex.new nr)) ⟨r, rfl, ?_⟩
    rw [upd_same]
    unfold lb
    rw [if_neg hc]
/-! levels -/
def okL (ns : List Int) : Prop := 2 ≤ ns.length ∧ ns.length ≤ 7 ∧ (∀ n ∈ ns, -9 ≤ n ∧ n ≤ 9) ∧ ns.Pairwise (· ≤ ·)
def sp_is_level : Sp := fun vs H Q _ => ∃ n : Int, vs = [.int n] ∧ -1000 ≤ n ∧ n ≤ 1000 ∧ RetV (.bl true) H Q
theorem sc_is_level : FnScope ["value"] ["value"] (defScope s_is_level) := ⟨rfl, rfl, rfl, by decide +kernel, rfl, by decide +kernel, by decide +kernel⟩
theorem h_is_level (T : Top K mg) (h_is_whole : Has P w K mg base "is_whole" 1 ["value"] sp_is_whole) : Has P w K mg base "is_level" 2 ["value"] sp_is_level := by
  refine has_mk T 10 rfl rfl sc_is_level (fun _ _ _ _ _ _ us hl => match us, hl with | [_], _ => rfl) ?len fun f cdv A outer s H vs Q E hr h => ?main
  case len =>
    rintro vs H Q E ⟨n, rfl, _⟩
    rfl
  obtain ⟨n, rfl, h0, h1, q⟩ := h
  refine ⟨_, (pss_one (ps_ret (pe_and (pe_has h_is_whole (hr.mono (by decide)) (pa_cons (pv 0) pa_nil)) (pe_one (pe_cmpR op_lt (pe_callB call_abs (by rfl) T.m_abs (by decide +kernel) (pa_cons (pv 0) pa_nil)) (pe_gi T.k_FIFTY_DIGITS) (nomark _)))))), ?_⟩
  refine ⟨_, rfl, _, .int n, rfl, rfl, ?_⟩
  rintro _ H1 e1 rfl
  refine ⟨_, rfl, iteT ?_⟩
  refine ⟨_, rfl, _, rfl, _, _, rfl, rfl, ?_⟩
  refine q _ _ e1 ?_
  have hb : (if n < 0 then -n else n) < 10 ^ 50 := by split <;> omega
  show V.bl (decide ((if n < 0 then -n else n) < 10 ^ 50)) = V.bl true
  rw [decide_eq_true hb]
def sp_is_levels_in : Sp := fun vs H Q _ => ∃ v ns, vs = [v] ∧ IsT H v (iv ns) ∧ okL ns ∧ RetV (.bl true) H Q
theorem sc_is_levels_in : FnScope ["value", "one", "other"] ["value"] (defScope s_is_levels_in) := ⟨rfl, rfl, rfl, by decide +kernel, rfl, by decide +kernel, by decide +kernel⟩
theorem h_is_levels_in (T : Top K mg) (h_is_level : Has P w K mg base "is_level" 2 ["value"] sp_is_level) : Has P w K mg base "is_levels_in" 3 ["value"] sp_is_levels_in := by
  refine has_mk T 11 rfl rfl sc_is_levels_in (fun _ _ _ _ _ _ us hl => match us, hl with | [_], _ => rfl) ?len fun f cdv A outer s H vs Q E hr h => ?main
  case len =>
    rintro vs H Q E ⟨v, ns, rfl, _⟩
    rfl
  obtain ⟨v, ns, rfl, ⟨p, rfl, hp⟩, ⟨o1, o2, o3, o4⟩, q⟩ := h
  have hk : KindV H (.ref p) (.tup (iv ns)) := ⟨p, rfl, hp⟩
  refine ⟨_, (pss_cons (ps_if (PW.pt (pw_or (pt_not (pt_val (pe_callB call_isi (by rfl) T.m_isinstance (by decide +kernel) (pa_cons (pv 0) (pa_cons (pe_bltn (v := .ty "tuple") (by rfl) T.m_tuple (by decide +kernel) rfl) pa_nil))))) (pw_or1 (pt_not (pt_chain op_le op_le (pe_gi T.k_LEAST_LEVELS) (pe_callB call_len_seq (by rfl) T.m_len PySem.boot_len (pa_cons (pv 0) pa_nil)) (pe_gi T.k_MOST_LEVELS)))))) (pss_one (ps_ret pe_bl)) pss_nil) (pss_one (ps_ret (pe_and (pe_callB (cr_all rfl) (by rfl) T.m_all (by decide +kernel) (pa_cons (pe_lc rfl sc_is_levels_in.nd (pi_tup (pv 0)) (blkOk_by (own := [("one", 1)]) (N := ["value", "one", "other"]) (sc := (defScope s_is_levels_in)) (by decide +kernel)) (fun _ _ _ _ _ => (pg_name (i := 1) sc_is_levels_in.nd rfl (by first | exact Or.inl rfl | exact Or.inr rfl))) (fun _ _ _ _ _ => pts_nil) (fun _ _ _ _ _ => (pe_has h_is_level (hr.mono (by decide)) (pa_cons (pv 1) pa_nil)))) pa_nil)) (pe_one (pe_callB (cr_all rfl) (by rfl) T.m_all (by decide +kernel) (pa_cons (pe_lc rfl sc_is_levels_in.nd (RZ.pi_zipA (by rfl) T.m_zip (pa_cons (pv 0) (pa_cons (pe_slice sl_tupA (pv 0) (po_some pe_int) po_none) pa_nil))) (blkOk_by (own := [("one", 1), ("other", 2)]) (N := ["value", "one", "other"]) (sc := (defScope s_is_levels_in)) (by decide +kernel)) (fun _ _ _ _ _ => (pg_T (n := 2) rfl (pgs_cons (pg_name (i := 1) sc_is_levels_in.nd rfl (by first | exact Or.inl rfl | exact Or.inr rfl)) (pgs_cons (pg_name (i := 2) sc_is_levels_in.nd rfl (by first | exact Or.inl rfl | exact Or.inr rfl)) pgs_nil)))) (fun _ _ _ _ _ => pts_nil) (fun _ _ _ _ _ => (pe_cmpR op_le (pv 1) (pv 2) (nomark _)))) pa_nil))))))), ?_⟩
  refine ⟨_, rfl, _, _, _, _, _, rfl, .ty _, hk.tyx, kit_tup _, _, rfl, iteF ?_⟩
  refine ⟨_, rfl, p, _, rfl, .inr (SqT.of hp), _, _, rfl, rfl, _, rfl, ?_⟩
  rw [iv_len, show decide ((2 : Int) ≤ (ns.length : Int)) = true from decide_eq_true (by omega)]
  refine iteT ⟨_, _, rfl, rfl, _, rfl, ?_⟩
  rw [show decide ((ns.length : Int) ≤ 60) = true from decide_eq_true (by omega)]
  refine iteF ?_
  refine ⟨_, rfl, p, rfl, ⟨_, SqT.of hp⟩, lc_all (walk_tup (K := K) (xs := iv ns)) (by rw [iv_len]; omega) (fun H' e => SqT.of (e.tup hp)) (fun _ v (d : Bool) => v = .bl d) (fun _ _ _ _ _ h => h) (fun _ => true) (gm1 _) ?_ ?_⟩
  · rintro i x H' H'' hi e1 ⟨rfl, hxi⟩ S hS
    obtain ⟨n, hn, rfl⟩ := iv_at hxi
    have bn := o3 n (List.mem_of_getElem? hn)
    refine ⟨rfl, _, rfl, n, rfl, by omega, by omega, ?_⟩
    rintro _ H3 e3 rfl
    exact hS _ _ e3 rfl
  intro D H' ys nD e1 hD hE
  refine ⟨D, _, rfl, SqL.of (show H' D = some (.lst (((List.range (iv ns).length).map fun _ => true).map V.bl)) by rw [hD, each_bl hE]), ?_⟩
  rw [all_true]
  have hp1 := e1.tup hp
  refine ⟨_, rfl, iteT ?_⟩
  -- one <= other for one, other in zip(value, value[1:])
  refine ⟨_, rfl, _, rfl, 1, rfl, p, _, rfl, SqT.of hp1, fun w => absurd w.1 ?_, fun _ t nt => ?_⟩
  · rw [sIx_k _ _ (i := 1) 1 rfl, iv_len]
    omega
  rw [cut_from (i := 1) 1 rfl, ← List.map_drop]
  have e2 := e1.trans (Ex.new (o := .tup (iv (ns.drop 1))) nt)
  have hp2 := e2.tup hp
  refine ⟨p, t, _, _, rfl, .inr ⟨SqT.of hp2, SqT.of upd_same, ?_⟩⟩
  have hm : ns.length - 1 = min (iv ns).length (iv (ns.drop 1)).length := by
    rw [iv_len, iv_len, List.length_drop]
    omega
  refine lc_all (walk_zipt (K := K) hm) (by omega) (fun H' e => ⟨e.tup hp2, e.tup upd_same⟩) (fun _ v (d : Bool) => v = .bl d) (fun _ _ _ _ _ h => h) (fun _ => true) (gmT _ _) ?_ ?_
  · rintro i v H1 H2 hi e3 ⟨T2, x, y, rfl, nT, rfl, hx, hy⟩ S hS
    obtain ⟨a, ha, rfl⟩ := iv_at hx
    obtain ⟨b, hb, rfl⟩ := iv_at hy
    rw [List.getElem?_drop] at hb
    have le : a ≤ b := by
      obtain ⟨h1, rfl⟩ := List.getElem?_eq_some_iff.mp ha
      obtain ⟨h2, rfl⟩ := List.getElem?_eq_some_iff.mp hb
      exact List.pairwise_iff_getElem.mp o4 _ _ _ _ (by omega)
    refine gpT upd_same ⟨rfl, _, rfl, _, rfl, _, _, rfl, rfl, ?_⟩
    exact hS _ _ (Ex.new nT) (bl_t le)
  · intro D2 H3 zs nD2 e3 hD2 hE2
    refine ⟨D2, _, rfl, SqL.of (show H3 D2 = some (.lst (((List.range (ns.length - 1)).map fun _ => true).map V.bl)) by rw [hD2, each_bl hE2]), ?_⟩
    rw [all_true]
    exact q _ _ (e2.trans e3) rfl
/-! sums over levels -/
def lsum (ns : List Int) (c : Int) : Int := (ns.map fun n => mx0 (n + c + 1)).sum
def sp_level_sum : Sp := fun vs H Q _ => ∃ v ns c, vs = [v, .int c] ∧ IsT H v (iv ns) ∧ ns.length ≤ 60 ∧ RetV (.int (lsum ns c)) H Q
theorem sc_level_sum : FnScope ["levels", "c", "one"] ["levels", "c"] (defScope s_level_sum) := ⟨rfl, rfl, rfl, by decide +kernel, rfl, by decide +kernel, by decide +kernel⟩
theorem h_level_sum (T : Top K mg) : Has P w K mg base "level_sum" 1 ["levels", "c"] sp_level_sum := by
  refine has_mk T 13 rfl rfl sc_level_sum (fun _ _ _ _ _ _ us hl => match us, hl with | [_, _], _ => rfl) ?len fun f cdv A outer s H vs Q E hr h => ?main
  case len =>
    rintro vs H Q E ⟨v, ns, c, rfl, _⟩
    rfl
  obtain ⟨v, ns, c, rfl, ⟨p, rfl, hp⟩, hl, q⟩ := h
  refine ⟨_, (pss_one (ps_ret (pe_callB (cr_sum rfl) (by rfl) T.m_sum (by decide +kernel) (pa_cons (pe_lc rfl sc_level_sum.nd (pi_tup (pv 0)) (blkOk_by (own := [("one", 2)]) (N := ["levels", "c", "one"]) (sc := (defScope s_level_sum)) (by decide +kernel)) (fun _ _ _ _ _ => (pg_name (i := 2) sc_level_sum.nd rfl (by first | exact Or.inl rfl | exact Or.inr rfl))) (fun _ _ _ _ _ => pts_nil) (fun _ _ _ _ _ => (pe_callB (call_max2 rfl) (by rfl) T.m_max (by decide +kernel) (pa_cons pe_int (pa_cons (pe_op op_add (pe_op op_add (pv 2) (pv 1)) pe_int) pa_nil))))) pa_nil)))), ?_⟩
  refine ⟨_, rfl, p, rfl, ⟨_, SqT.of hp⟩, lc_all (walk_tup (K := K) (xs := iv ns)) (by rw [iv_len]; omega) (fun H' e => SqT.of (e.tup hp)) (fun _ v (d : Int) => v = .int d) (fun _ _ _ _ _ h => h) (fun i => mx0 (ns.getD i 0 + c + 1)) (gm1 _) ?_ ?_⟩
  · rintro i x H' H'' hi e1 ⟨rfl, hxi⟩ S hS
    obtain ⟨n, hn, rfl⟩ := iv_at hxi
    refine ⟨rfl, _, rfl, _, rfl, _, _, rfl, rfl, _, _, rfl, rfl, _, _, rfl, hS _ _ (Ex.refl _) ?_⟩
    rw [getD_at hn]
    rfl
  · intro D H' ys nD e1 hD hE
    refine ⟨D, _, rfl, SqL.of (show H' D = some (.lst (iv (ns.map fun n => mx0 (n + c + 1)))) by rw [hD, each_int hE, iv_map ns fun n => mx0 (n + c + 1)]), q _ _ e1 rfl⟩
def msum (ns : List Int) (c : Int) : Int := (ns.map fun n => mx0 (-n - c - 1)).sum
def sp_missing_sum : Sp := fun vs H Q _ => ∃ v ns c, vs = [v, .int c] ∧ IsT H v (iv ns) ∧ ns.length ≤ 60 ∧ RetV (.int (msum ns c)) H Q
theorem sc_missing_sum : FnScope ["levels", "c", "one"] ["levels", "c"] (defScope s_missing_sum) := ⟨rfl, rfl, rfl, by decide +kernel, rfl, by decide +kernel, by decide +kernel⟩
theorem h_missing_sum (T : Top K mg) : Has P w K mg base "missing_sum" 1 ["levels", "c"] sp_missing_sum := by
  refine has_mk T 14 rfl rfl sc_missing_sum (fun _ _ _ _ _ _ us hl => match us, hl with | [_, _], _ => rfl) ?len fun f cdv A outer s H vs Q E hr h => ?main
  case len =>
    rintro vs H Q E ⟨v, ns, c, rfl, _⟩
    rfl
  obtain ⟨v, ns, c, rfl, ⟨p, rfl, hp⟩, hl, q⟩ := h
  refine ⟨_, (pss_one (ps_ret (pe_callB (cr_sum rfl) (by rfl) T.m_sum (by decide +kernel) (pa_cons (pe_lc rfl sc_missing_sum.nd (pi_tup (pv 0)) (blkOk_by (own := [("one", 2)]) (N := ["levels", "c", "one"]) (sc := (defScope s_missing_sum)) (by decide +kernel)) (fun _ _ _ _ _ => (pg_name (i := 2) sc_missing_sum.nd rfl (by first | exact Or.inl rfl | exact Or.inr rfl))) (fun _ _ _ _ _ => pts_nil) (fun _ _ _ _ _ => (pe_callB (call_max2 rfl) (by rfl) T.m_max (by decide +kernel) (pa_cons pe_int (pa_cons (pe_op op_sub (pe_op op_sub (pe_un un_neg (pv 2)) (pv 1)) pe_int) pa_nil))))) pa_nil)))), ?_⟩
  refine ⟨_, rfl, p, rfl, ⟨_, SqT.of hp⟩, lc_all (walk_tup (K := K) (xs := iv ns)) (by rw [iv_len]; omega) (fun H' e => SqT.of (e.tup hp)) (fun _ v (d : Int) => v = .int d) (fun _ _ _ _ _ h => h) (fun i => mx0 (-(ns.getD i 0) - c - 1)) (gm1 _) ?_ ?_⟩
  · rintro i x H' H'' hi e1 ⟨rfl, hxi⟩ S hS
    obtain ⟨n, hn, rfl⟩ := iv_at hxi
    refine ⟨rfl, _, rfl, _, rfl, _, rfl, _, _, rfl, rfl, _, _, rfl, rfl, _, _, rfl, hS _ _ (Ex.refl _) ?_⟩
    rw [getD_at hn]
    rfl
  · intro D H' ys nD e1 hD hE
    refine ⟨D, _, rfl, SqL.of (show H' D = some (.lst (iv (ns.map fun n => mx0 (-n - c - 1)))) by rw [hD, each_int hE, iv_map ns fun n => mx0 (-n - c - 1)]), q _ _ e1 rfl⟩
/-! the distance -/
/-- what one level adds: the later ones above it -/
def dadd (n : Int) (r : List Int) : Int := (r.map fun m => mx0 (m - n - 1)).sum
def dist (ns : List Int) : Int := match ns with
  | [] => 0
  | n :: r => dadd n r + dist r
/-- the first i turns -/
def distTo (ns : List Int) (i : Nat) : Int := ((List.range i).map fun j => dadd (ns.getD j 0) (ns.drop (j + 1))).sum
theorem sum_snoc (l : List Int) (n : Int) : (l ++ [n]).sum = l.sum + n := by
  induction l with
  | nil => simp
  | cons x r ih => rw [List.cons_append, List.sum_cons, List.sum_cons, ih]; omega
theorem distTo_succ (ns : List Int) (i : Nat) : distTo ns (i + 1) = distTo ns i + dadd (ns.getD i 0) (ns.drop (i + 1)) := by
  unfold distTo
  rw [List.range_succ, List.map_append, List.map_singleton, sum_snoc]
theorem distTo_all : ∀ ns : List Int, distTo ns ns.length = dist ns
  | [] => rfl
  | n :: r => by
    have ih := distTo_all r
    unfold distTo at ih ⊢
    rw [List.length_cons, List.range_succ_eq_map, List.map_cons, List.sum_cons, List.map_map]
    show dadd n r + _ = dadd n r + dist r
    rw [← ih]
    rfl
def sp_distance_in : Sp := fun vs H Q _ => ∃ v ns, vs = [v] ∧ IsT H v (iv ns) ∧ ns.length ≤ 60 ∧ RetV (.int (dist ns)) H Q
theorem sc_distance_in : FnScope ["levels", "found", "index", "low", "high"] ["levels"] (defScope s_distance_in) := ⟨rfl, rfl, rfl, by decide +kernel, rfl, by decide +kernel, by decide +kernel⟩
theorem h_distance_in (T : Top K mg) : Has P w K mg base "distance_in" 1 ["levels"] sp_distance_in := by
  refine has_mk T 12 rfl rfl sc_distance_in (fun _ _ _ _ _ _ us hl => match us, hl with | [_], _ => rfl) ?len fun f cdv A outer s H vs Q E hr h => ?main
  case len =>
    rintro vs H Q E ⟨v, ns, rfl, _⟩
    rfl
  obtain ⟨v, ns, rfl, ⟨p, rfl, hp⟩, hl, q⟩ := h
  refine ⟨_, (pss_cons (ps_set (i := 1) sc_distance_in.nd rfl (by first | exact Or.inl rfl | exact Or.inr rfl) pe_int) (pss_cons (ps_for PassesOwn.never rfl (pi_enumT (by rfl) T.m_enumerate (pa_cons (pv 0) pa_nil)) (pg_tup rfl (pgs_cons (pg_name (i := 2) sc_distance_in.nd rfl (by first | exact Or.inl rfl | exact Or.inr rfl)) (pgs_cons (pg_name (i := 3) sc_distance_in.nd rfl (by first | exact Or.inl rfl | exact Or.inr rfl)) pgs_nil))) (pss_one (ps_aug (i := 1) sc_distance_in.nd rfl (by first | exact Or.inl rfl | exact Or.inr rfl) (pe_callB (cr_sum rfl) (by rfl) T.m_sum (by decide +kernel) (pa_cons (pe_lc rfl sc_distance_in.nd (pi_tup (pe_slice sl_tupA (pv 0) (po_some (pe_op op_add (pv 2) pe_int)) po_none)) (blkOk_by (own := [("high", 4)]) (N := ["levels", "found", "index", "low", "high"]) (sc := (defScope s_distance_in)) (by decide +kernel)) (fun _ _ _ _ _ => (pg_name (i := 4) sc_distance_in.nd rfl (by first | exact Or.inl rfl | exact Or.inr rfl))) (fun _ _ _ _ _ => pts_nil) (fun _ _ _ _ _ => (pe_callB (call_max2 rfl) (by rfl) T.m_max (by decide +kernel) (pa_cons pe_int (pa_cons (pe_op op_sub (pe_op op_sub (pv 4) (pv 3)) pe_int) pa_nil))))) pa_nil)) ip_add))) (pss_one (ps_ret (pv 1))))), ?_⟩
  refine ⟨_, rfl, p, _, rfl, hp, for_it (walk_enumT (a := p) (xs := iv ns)) (fun i σ H' => ∃ a b c, σ = [some (.ref p), some (.int (distTo ns i)), a, b, c] ∧ Ex H H') ⟨none, none, none, rfl, Ex.refl _⟩ (fun i σ H' hi ⟨_, _, _, _, e⟩ => e.tup hp) ?_ ?_⟩
  · rintro i x σ H1 H2 hi ⟨a, b, c, rfl, e1⟩ ⟨T1, y, z, rfl, nT, rfl, hy, hz⟩
    cases hy
    obtain ⟨n, hn, rfl⟩ := iv_at hz
    have e2 : Ex H (upd H1 T1 (.tup [.int (i : Nat), .int n])) := e1.trans (Ex.new nT)
    have hp2 := e2.tup hp
    have hi' : i < ns.length := by rw [← iv_len ns]; exact hi
    refine ⟨T1, _, rfl, SqT.of upd_same, rfl, _, _, rfl, _, _, rfl, rfl, ?_⟩
    refine ⟨_, rfl, ?_⟩
    refine ⟨_, rfl, _, rfl, _, _, rfl, rfl, _, rfl, p, _, rfl, SqT.of hp2, fun w => absurd w.1 ?_, fun _ t nt => ?_⟩
    · rw [sIx_k _ _ (i := (i : Int) + 1) (i + 1) rfl, iv_len]
      omega
    rw [cut_from (i := (i : Int) + 1) (i + 1) rfl, ← List.map_drop]
    have e3 := e2.trans (Ex.new (o := .tup (iv (ns.drop (i + 1)))) nt)
    refine ⟨t, rfl, ⟨_, SqT.of upd_same⟩, lc_all (walk_tup (K := K) (xs := iv (ns.drop (i + 1)))) (by rw [iv_len, List.length_drop]; omega) (fun H' e => SqT.of (e.tup upd_same)) (fun _ v (d : Int) => v = .int d) (fun _ _ _ _ _ h => h) (fun j => mx0 ((ns.drop (i + 1)).getD j 0 - n - 1)) (gm1 _) ?_ ?_⟩
    · rintro j x H3 H4 hj e4 ⟨rfl, hxj⟩ S hS
      obtain ⟨m, hm, rfl⟩ := iv_at hxj
      refine ⟨rfl, _, rfl, _, rfl, _, _, rfl, rfl, _, _, rfl, rfl, _, _, rfl, hS _ _ (Ex.refl _) ?_⟩
      rw [getD_at hm]
      rfl
    · intro D H' ys nD e4 hD hE
      refine ⟨D, _, rfl, SqL.of (show H' D = some (.lst (iv ((ns.drop (i + 1)).map fun m => mx0 (m - n - 1)))) by rw [hD, each_int hE, iv_map (ns.drop (i + 1)) fun m => mx0 (m - n - 1)]), _, _, rfl, rfl, ?_⟩
      have ed : distTo ns (i + 1) = distTo ns i + ((ns.drop (i + 1)).map fun m => mx0 (m - n - 1)).sum := by
        rw [distTo_succ, getD_at hn]
        rfl
      rw [ed]
      exact ⟨some (.int i), some (.int n), c, rfl, e3.trans e4⟩
  · rintro σ H1 ⟨a, b, c, rfl, e1⟩
    refine ⟨_, rfl, q _ _ e1 ?_⟩
    rw [iv_len, distTo_all]
/-! orders -/
def sp_common_order : Sp := fun vs H Q _ => ∃ v rs k, vs = [v] ∧ IsC H v rs ∧ okC rs ∧ (∀ r ∈ rs, ordR r = k) ∧ RetV (.int k) H Q
theorem sc_common_order : FnScope ["value", "orders", "ring"] ["value"] (defScope s_common_order) := ⟨rfl, rfl, rfl, by decide +kernel, rfl, by decide +kernel, by decide +kernel⟩
theorem h_common_order (T : Top K mg) (h_is_chain_in : Has P w K mg base "is_chain_in" 4 ["value"] sp_is_chain_in) (h_order_in : Has P w K mg base "order_in" 1 ["ring"] sp_order_in) : Has P w K mg base "common_order" 5 ["value"] sp_common_order := by
  refine has_mk T 15 rfl rfl sc_common_order (fun _ _ _ _ _ _ us hl => match us, hl with | [_], _ => rfl) ?len fun f cdv A outer s H vs Q E hr h => ?main
  case len =>
    rintro vs H Q E ⟨v, rs, k, rfl, _⟩
    rfl
  obtain ⟨v, rs, k, rfl, hC, ok, hk, q⟩ := h
  obtain ⟨xs, ⟨p, rfl, hp⟩, he⟩ := id hC
  obtain ⟨o1, o2, o3⟩ := id ok
  have hl := he.1
  refine ⟨_, (pss_cons (ps_if (pt_not (pt_val (pe_has h_is_chain_in (hr.mono (by decide)) (pa_cons (pv 0) pa_nil)))) (pss_one (ps_ret pe_non)) pss_nil) (pss_cons (ps_set1 (i := 1) (x := "ring") (j := 2) rfl sc_common_order.nd rfl rfl (by rfl) (pv 0) (blkOk_by (own := [("ring", 2)]) (N := ["value", "orders", "ring"]) (sc := (defScope s_common_order)) (by decide +kernel)) (fun _ _ _ _ _ => (pg_name (i := 2) sc_common_order.nd rfl (by first | exact Or.inl rfl | exact Or.inr rfl))) (fun _ _ _ _ _ => (pe_has h_order_in (hr.mono (by decide)) (pa_cons (pv 2) pa_nil)))) (pss_one (ps_ret (pe_ifExp (pt_cmpR op_eq (pe_callB call_lenSet (by rfl) T.m_len PySem.boot_len (pa_cons (pv 1) pa_nil)) pe_int (nomark _)) (pe_has h_order_in (hr.mono (by decide)) (pa_cons (pe_ix ix_tup (pv 0) pe_int (fun _ _ => rfl)) pa_nil)) pe_non))))), ?_⟩
  refine ⟨_, rfl, _, _, rfl, hC, ok, ?_⟩
  rintro _ H1 e1 rfl
  refine ⟨_, rfl, iteF ?_⟩
  have hp1 := e1.tup hp
  refine ⟨_, rfl, p, xs, k, rfl, hp1, by omega, fun i x H' hx e2 => ⟨rfl, fun S hS => ?_⟩, fun D H' nD e2 hD => ?_⟩
  · obtain ⟨r, hr, hR⟩ := he.at' hx
    refine ⟨_, rfl, _, r, rfl, IsT.mono (e1.trans e2) hR, o3 r (List.mem_of_getElem? hr), ?_⟩
    rintro _ H2 e3 rfl
    rw [hk r (List.mem_of_getElem? hr)]
    exact hS H2 e3
  · have e3 := e1.trans e2
    obtain ⟨r, hr⟩ : ∃ r, rs[0]? = some r := ⟨rs[0], List.getElem?_eq_getElem (by omega)⟩
    obtain ⟨x, hx, hR⟩ := he.at hr
    have n0 : ¬ xs.length = 0 := by omega
    rw [if_neg n0] at hD
    refine ⟨_, rfl, D, _, 1, rfl, hD, by decide, rfl, _, rfl, iteT ?_⟩
    refine ⟨_, rfl, p, _, _, x, rfl, rfl, SqT.of (e3.tup hp), atI_nat (j := 0) hx, _, r, rfl, IsT.mono e3 hR, o3 r (List.mem_of_getElem? hr), ?_⟩
    rintro _ H2 e4 rfl
    exact q _ _ (e3.trans e4) (by rw [hk r (List.mem_of_getElem? hr)])
end K7

set_option Elab.async false
set_option linter.all false
set_option maxRecDepth 100000
set_option maxHeartbeats 4000000
namespace K7
open PySem PySem.Spec PyProof.Rows L2
variable {P : Program} {w : World} {K : PySem.W.Frag} {mg : Str → Option Value} {base : Heap}
/-! heaps of boxes -/
abbrev Bx := Int × Int
def IsP (H : Hp) (v : V) (b : Bx) : Prop := IsT H v [.int b.1, .int b.2]
theorem foldl_max_ge (ns : List Int) : ∀ a : Int, a ≤ ns.foldl max a ∧ ∀ n ∈ ns, n ≤ ns.foldl max a := by
  induction ns with
  | nil => exact fun a => ⟨Int.le_refl _, fun n h => by cases h⟩
  | cons x r ih =>
    intro a
    obtain ⟨h1, h2⟩ := ih (max a x)
    rw [List.foldl_cons]
    refine ⟨by omega, fun n hn => ?_⟩
    rcases List.mem_cons.mp hn with rfl | hn
    · omega
    · exact h2 n hn
theorem foldl_max_mem (ns : List Int) : ∀ a : Int, ns.foldl max a = a ∨ ns.foldl max a ∈ ns := by
  induction ns with
  | nil => exact fun a => .inl rfl
  | cons x r ih =>
    intro a
    rw [List.foldl_cons]
    rcases ih (max a x) with h | h
    · rw [h]
      by_cases hx : a ≤ x
      · exact .inr (by rw [Int.max_eq_right hx]; exact List.mem_cons_self)
      · exact .inl (Int.max_eq_left (by omega))
    · exact .inr (List.mem_cons_of_mem _ h)
theorem max0_is {ns : List Int} {m : Int} (h : m ∈ ns) (l : ∀ y ∈ ns, y ≤ m) : m = max0 ns := by
  cases ns with
  | nil => cases h
  | cons n r =>
    show m = r.foldl max n
    have h1 := foldl_max_ge r n
    have h2 : m ≤ r.foldl max n := by
      rcases List.mem_cons.mp h with rfl | h
      · exact h1.1
      · exact h1.2 m h
    have h3 : r.foldl max n ≤ m := by
      rcases foldl_max_mem r n with e | e
      · rw [e]
        exact l n List.mem_cons_self
      · exact l _ (List.mem_cons_of_mem _ e)
    omega
theorem max0_mem {ns : List Int} (h : 0 < max0 ns) : max0 ns ∈ ns := by
  cases ns with
  | nil => cases h
  | cons n r =>
    rcases foldl_max_mem r n with e | e
    · exact List.mem_cons.mpr (.inl e)
    · exact List.mem_cons_of_mem _ e
theorem max0_ge {ns : List Int} {m : Int} (h : m ∈ ns) : m ≤ max0 ns := by
  cases ns with
  | nil => cases h
  | cons n r =>
    have h1 := foldl_max_ge r n
    rcases List.mem_cons.mp h with rfl | h
    · exact h1.1
    · exact h1.2 m h
def widest (bs : List Bx) : Int := max0 (bs.map (·.1))
def hob (bs : List Bx) : List Int := (List.range (widest bs).toNat).map fun (i : Nat) => max0 ((bs.filter fun b => decide (b.1 > (i : Int))).map (·.2))
theorem giv_filter {α β : Type} [Inhabited α] (l : List α) (k : α → Bool) (f : α → β) : giv l.length (fun i => k (l.getD i default)) (fun i => f (l.getD i default)) = (l.filter k).map f := by
  have e : l = (List.range l.length).map fun i => l.getD i default := ((map_range_get l fun a => a).trans (List.map_id' l)).symm
  unfold giv
  conv => rhs; rw [e, List.filter_map, List.map_map]
  rfl
theorem getD_d {α : Type} [Inhabited α] {l : List α} {i : Nat} {a : α} (h : l[i]? = some a) : l.getD i default = a := by
  rw [List.getD_eq_getElem?_getD, h]
  rfl
instance : Inhabited Bx := ⟨(0, 0)⟩
def sp_heap_of_boxes : Sp := fun vs H Q _ => ∃ v xs bs, vs = [v] ∧ IsL H v xs ∧ Each (IsP H) xs bs ∧ bs.length ≤ 5000 ∧ 0 ≤ widest bs ∧ widest bs ≤ 20000 ∧ Ret (fun u H' => IsT H' u (iv (hob bs))) H Q
theorem sc_heap_of_boxes : FnScope ["boxes", "widest", "columns", "rows", "place"] ["boxes"] (defScope s_heap_of_boxes) := ⟨rfl, rfl, rfl, by decide +kernel, rfl, by decide +kernel, by decide +kernel⟩
theorem h_heap_of_boxes (T : Top K mg) : Has P w K mg base "heap_of_boxes" 1 ["boxes"] sp_heap_of_boxes := by
  refine has_mk T 18 rfl rfl sc_heap_of_boxes (fun _ _ _ _ _ _ us hl => match us, hl with | [_], _ => rfl) ?len fun f cdv A outer s H vs Q E hr h => ?main
  case len =>
    rintro vs H Q E ⟨v, xs, bs, rfl, _⟩
    rfl
  obtain ⟨v, xs, bs, rfl, ⟨p, rfl, hp⟩, he, hl, hw0, hw, q⟩ := h
  have hxl := he.1
  refine ⟨_, (pss_cons (ps_set (i := 1) sc_heap_of_boxes.nd rfl (by first | exact Or.inl rfl | exact Or.inr rfl) (pe_maxD (by rfl) T.m_max (pe_lc rfl sc_heap_of_boxes.nd (pi_list (pv 0)) (blkOk_by (own := [("columns", 2), ("rows", 3)]) (N := ["boxes", "widest", "columns", "rows", "place"]) (sc := (defScope s_heap_of_boxes)) (by decide +kernel)) (fun _ _ _ _ _ => (pg_T (n := 2) rfl (pgs_cons (pg_name (i := 2) sc_heap_of_boxes.nd rfl (by first | exact Or.inl rfl | exact Or.inr rfl)) (pgs_cons (pg_name (i := 3) sc_heap_of_boxes.nd rfl (by first | exact Or.inl rfl | exact Or.inr rfl)) pgs_nil)))) (fun _ _ _ _ _ => pts_nil) (fun _ _ _ _ _ => (pv 2))))) (pss_one (ps_ret (pe_callTy call_tuple_of (by rfl) T.m_tuple (by decide +kernel) (pa_cons (pe_lc rfl sc_heap_of_boxes.nd (pi_range1 (by rfl) T.m_range (pa_cons (pv 1) pa_nil)) (blkOk_by (own := [("place", 4)]) (N := ["boxes", "widest", "columns", "rows", "place"]) (sc := (defScope s_heap_of_boxes)) (by decide +kernel)) (fun _ _ _ _ _ => (pg_name (i := 4) sc_heap_of_boxes.nd rfl (by first | exact Or.inl rfl | exact Or.inr rfl))) (fun _ _ _ _ _ => pts_nil) (fun _ _ _ _ _ => (pe_callB (cr_mx rfl) (by rfl) T.m_max (by decide +kernel) (pa_cons (pe_lc rfl sc_heap_of_boxes.nd (pi_L (pv 0)) (blkOk_by (own := [("columns", 2), ("rows", 3)]) (N := ["boxes", "widest", "columns", "rows", "place"]) (sc := (relS _ (defScope s_heap_of_boxes))) (by decide +kernel)) (fun _ _ _ _ _ => (pg_T (n := 2) rfl (pgs_cons (pg_name (i := 2) sc_heap_of_boxes.nd rfl (by first | exact Or.inl rfl | exact Or.inr rfl)) (pgs_cons (pg_name (i := 3) sc_heap_of_boxes.nd rfl (by first | exact Or.inl rfl | exact Or.inr rfl)) pgs_nil)))) (fun _ _ _ _ _ => (pts_one (pt_cmpR op_gt (pv 2) (pv 4) (nomark _)))) (fun _ _ _ _ _ => (pv 3))) pa_nil)))) pa_nil))))), ?_⟩
  refine ⟨_, rfl, p, rfl, ⟨_, SqL.of hp⟩, lc_all (walk_list (K := K) (xs := xs)) (by omega) (fun H' e => SqL.of (e.lst hp)) (fun _ v (d : Int) => v = .int d) (fun _ _ _ _ _ h => h) (fun i => (bs.getD i default).1) (gmT _ _) ?_ ?_⟩
  · rintro i x H' H'' hi e1 ⟨rfl, hxi⟩ S hS
    obtain ⟨b, hb, ⟨t, rfl, ht⟩⟩ := he.at' hxi
    refine gpT (e1.tup ht) ⟨rfl, _, rfl, hS _ _ (Ex.refl _) ?_⟩
    rw [getD_d hb]
  intro D H1 ys nD e1 hD hE
  refine ⟨D, bs.map (·.1), rfl, by rw [hD, each_int hE, hxl, map_range_get bs (·.1)], ?_⟩
  have hp1 := e1.lst hp
  refine ⟨_, rfl, widest bs, rfl, by omega, by omega, lc_all (walk_range (lo := 0) (n := (widest bs).toNat)) (by omega) (fun _ _ => trivial) (fun _ v (d : Int) => v = .int d) (fun _ _ _ _ _ h => h) (fun i => max0 ((bs.filter fun b => decide (b.1 > (i : Int))).map (·.2))) (gm1 _) ?_ ?_⟩
  · rintro i x H' H'' hi e2 ⟨rfl, rfl⟩ S hS
    have e3 := e1.trans e2
    refine ⟨rfl, ?_⟩
    refine ⟨_, rfl, p, xs, rfl, e3.lst hp, lc_go (walk_L (a := p) (xs := xs)) (by omega) (fun H' e => (e3.trans e).lst hp) (fun _ v (d : Int) => v = .int d) (fun _ _ _ _ _ h => h) (fun j => decide ((bs.getD j default).1 > (i : Int))) (fun j => (bs.getD j default).2) ?_ ?_⟩
    · rintro j x H3 H4 hj e4 ⟨rfl, hxj⟩ F S2 hF hS2
      obtain ⟨b, hb, ⟨t, rfl, ht⟩⟩ := he.at' hxj
      refine gpT ((e3.trans e4).tup ht) ⟨rfl, _, rfl, _, rfl, _, _, rfl, rfl, _, rfl, ?_⟩
      rw [getD_d hb] at hF hS2
      rw [Int.zero_add]
      refine ite2 (fun c => ?_) fun c => ?_
      · exact ⟨_, rfl, hS2 c _ _ (Ex.refl _) rfl⟩
      · exact hF (Bool.eq_false_iff.mpr c) _ (Ex.refl _)
    · intro D2 H3 zs nD2 e4 hD2 hE2
      rw [hxl, giv_filter bs (fun b => decide (b.1 > (i : Int))) (·.2)] at hE2
      refine ⟨D2, _, rfl, by rw [hD2, each_int hE2], ?_, fun m hm hle => hS _ _ e4 (by rw [max0_is hm hle])⟩
      have h0 : 0 < widest bs := by omega
      obtain ⟨b, hb, eb⟩ := List.mem_map.mp (max0_mem h0)
      rw [List.length_map]
      refine List.length_pos_of_mem (List.mem_filter.mpr ⟨hb, decide_eq_true ?_⟩)
      have : b.1 = widest bs := eb
      omega
  · intro D2 H2 zs nD2 e2 hD2 hE2
    refine ⟨D2, _, rfl, .inl ⟨SqL.of hD2, fun r nr => q _ _ ((e1.trans e2).trans (Ex.new nr)) ⟨r, rfl, ?_⟩⟩⟩
    rw [upd_same, each_int hE2]
    rfl
end K7

set_option Elab.async false
set_option linter.all false
set_option maxRecDepth 100000
set_option maxHeartbeats 4000000
namespace K7
open PySem PySem.Spec PyProof.Rows L2
variable {P : Program} {w : World} {K : PySem.W.Frag} {mg : Str → Option Value} {base : Heap}
/-! the core of levels -/
def lst (ns : List Int) : Int := ns.getD (ns.length - 1) 0
def fst0 (ns : List Int) : Int := ns.getD 0 0
def bxOf (ns : List Int) : List Bx := (List.range (-fst0 ns - (-lst ns - 1)).toNat).map fun (i : Nat) => (lsum ns (-lst ns - 1 + (i : Int)), msum ns (-lst ns - 1 + (i : Int)))
def core (ns : List Int) : List Int := hob ((bxOf ns).filter fun b => decide (b.1 > 0) && decide (b.2 > 0))
theorem sum_bd (B : Int) : ∀ l : List Int, (∀ x ∈ l, 0 ≤ x ∧ x ≤ B) → 0 ≤ l.sum ∧ l.sum ≤ l.length * B
  | [], _ => by simp
  | x :: r, h => by
    have h1 := h x List.mem_cons_self
    have h2 := sum_bd B r fun y hy => h y (List.mem_cons_of_mem _ hy)
    rw [List.sum_cons, List.length_cons]
    have : ((r.length + 1 : Nat) : Int) * B = r.length * B + B := by rw [Int.natCast_add, Int.add_mul]; simp
    omega
theorem getD_mem {ns : List Int} {i : Nat} (h : i < ns.length) : ns.getD i 0 ∈ ns := by
  rw [List.getD_eq_getElem?_getD, List.getElem?_eq_getElem h]
  exact List.getElem_mem h
theorem fst_bd {ns : List Int} (o : okL ns) : -9 ≤ fst0 ns ∧ fst0 ns ≤ 9 := o.2.2.1 _ (getD_mem (by have := o.1; omega))
theorem lst_bd {ns : List Int} (o : okL ns) : -9 ≤ lst ns ∧ lst ns ≤ 9 := o.2.2.1 _ (getD_mem (by have := o.1; omega))
theorem mx0_bd {x B : Int} (h : x ≤ B) (hB : 0 ≤ B) : 0 ≤ mx0 x ∧ mx0 x ≤ B := by
  unfold mx0
  split <;> omega
theorem lsum_bd {ns : List Int} (o : okL ns) {c : Int} (hc : c < -fst0 ns) : 0 ≤ lsum ns c ∧ lsum ns c ≤ 140 := by
  have hf := fst_bd o
  have q := sum_bd 20 (ns.map fun n => mx0 (n + c + 1)) fun x hx => by
    obtain ⟨n, hn, rfl⟩ := List.mem_map.mp hx
    have := o.2.2.1 n hn
    exact mx0_bd (by omega) (by decide)
  rw [List.length_map] at q
  have h7 : (ns.length : Int) ≤ 7 := by have := o.2.1; omega
  have : (ns.length : Int) * 20 ≤ 7 * 20 := Int.mul_le_mul_of_nonneg_right h7 (by decide)
  unfold lsum
  omega
theorem msum_bd {ns : List Int} (o : okL ns) {c : Int} (hc : -lst ns - 1 ≤ c) : 0 ≤ msum ns c ∧ msum ns c ≤ 140 := by
  have hf := lst_bd o
  have q := sum_bd 20 (ns.map fun n => mx0 (-n - c - 1)) fun x hx => by
    obtain ⟨n, hn, rfl⟩ := List.mem_map.mp hx
    have := o.2.2.1 n hn
    exact mx0_bd (by omega) (by decide)
  rw [List.length_map] at q
  have h7 : (ns.length : Int) ≤ 7 := by have := o.2.1; omega
  have : (ns.length : Int) * 20 ≤ 7 * 20 := Int.mul_le_mul_of_nonneg_right h7 (by decide)
  unfold msum
  omega
theorem widest_bd {bs : List Bx} (h : ∀ b ∈ bs, 0 ≤ b.1 ∧ b.1 ≤ 140) : 0 ≤ widest bs ∧ widest bs ≤ 140 := by
  unfold widest
  cases bs with
  | nil => exact ⟨Int.le_refl _, by decide⟩
  | cons b r =>
    have h1 := foldl_max_ge (r.map (·.1)) b.1
    have hb := h b List.mem_cons_self
    refine ⟨Int.le_trans hb.1 h1.1, ?_⟩
    show (r.map (·.1)).foldl max b.1 ≤ 140
    rcases foldl_max_mem (r.map (·.1)) b.1 with e | e
    · rw [e]
      exact hb.2
    · obtain ⟨c, hc, ec⟩ := List.mem_map.mp e
      rw [← ec]
      exact (h c (List.mem_cons_of_mem _ hc)).2
theorem core_bx {ns : List Int} (o : okL ns) : ∀ b ∈ (bxOf ns).filter (fun b => decide (b.1 > 0) && decide (b.2 > 0)), (0 ≤ b.1 ∧ b.1 ≤ 140) ∧ 0 < b.2 ∧ b.2 ≤ 140 := fun b hb => by
  obtain ⟨hb1, hb2⟩ := List.mem_filter.mp hb
  obtain ⟨i, hi, rfl⟩ := List.mem_map.mp hb1
  have hi' := List.mem_range.mp hi
  refine ⟨lsum_bd o (by omega), of_decide_eq_true (Bool.and_eq_true_iff.mp hb2).2, (msum_bd o (by omega)).2⟩
/-- the core is small, its columns are above 0 -/
theorem core_ok {ns : List Int} (o : okL ns) : (core ns).length ≤ 140 ∧ (∀ n ∈ core ns, 0 < n ∧ n ≤ 140) := by
  have hb := core_bx o
  have wb := widest_bd fun b h => (hb b h).1
  generalize hB : (bxOf ns).filter (fun b => decide (b.1 > 0) && decide (b.2 > 0)) = B at hb wb
  have ec : core ns = hob B := by rw [← hB]; rfl
  rw [ec]
  refine ⟨by unfold hob; rw [List.length_map, List.length_range]; omega, fun n hn => ?_⟩
  obtain ⟨i, hi, rfl⟩ := List.mem_map.mp hn
  have hi' := List.mem_range.mp hi
  obtain ⟨b, h1, h2⟩ := List.mem_map.mp (max0_mem (ns := B.map (·.1)) (by show 0 < widest B; omega))
  have h2' : b.1 = widest B := h2
  have m : b.2 ∈ (B.filter fun b => decide (b.1 > (i : Int))).map (·.2) := List.mem_map.mpr ⟨b, List.mem_filter.mpr ⟨h1, decide_eq_true (by omega)⟩, rfl⟩
  have h3 := (hb b h1).2
  have g : ∀ n ∈ (B.filter fun b => decide (b.1 > (i : Int))).map (·.2), n ≤ 140 := fun n hn => by
    obtain ⟨c, hc, rfl⟩ := List.mem_map.mp hn
    exact (hb c (List.mem_filter.mp hc).1).2.2
  have h4 := max0_ge m
  exact ⟨by omega, g _ (max0_mem (by omega))⟩
def sp_core_in : Sp := fun vs H Q _ => ∃ v ns, vs = [v] ∧ IsT H v (iv ns) ∧ okL ns ∧ Ret (fun u H' => IsT H' u (iv (core ns))) H Q
theorem sc_core_in : FnScope ["levels", "boxes", "c", "pair"] ["levels"] (defScope s_core_in) := ⟨rfl, rfl, rfl, by decide +kernel, rfl, by decide +kernel, by decide +kernel⟩
theorem h_core_in (T : Top K mg) (h_level_sum : Has P w K mg base "level_sum" 1 ["levels", "c"] sp_level_sum) (h_missing_sum : Has P w K mg base "missing_sum" 1 ["levels", "c"] sp_missing_sum) (h_heap_of_boxes : Has P w K mg base "heap_of_boxes" 1 ["boxes"] sp_heap_of_boxes) : Has P w K mg base "core_in" 2 ["levels"] sp_core_in := by
  refine has_mk T 19 rfl rfl sc_core_in (fun _ _ _ _ _ _ us hl => match us, hl with | [_], _ => rfl) ?len fun f cdv A outer s H vs Q E hr h => ?main
  case len =>
    rintro vs H Q E ⟨v, ns, rfl, _⟩
    rfl
  obtain ⟨v, ns, rfl, hT, ok, q⟩ := h
  obtain ⟨p, rfl, hp⟩ := id hT
  have hl := ok.1
  have h7 := ok.2.1
  have bf := fst_bd ok
  have bl := lst_bd ok
  have aL : atI (iv ns) (-1) = some (.int (lst ns)) := by
    refine atI_m1 ?_
    rw [iv_len]
    refine at_iv ?_
    unfold lst
    rw [List.getD_eq_getElem?_getD, List.getElem?_eq_getElem (by omega)]
    rfl
  have aF : atI (iv ns) 0 = some (.int (fst0 ns)) := nth_at (ns := ns) (i := 0) (by omega) (by omega)
  refine ⟨_, (pss_cons (ps_setLc (i := 1) rfl sc_core_in.nd rfl rfl (sw_true rfl rfl rfl (by decide +kernel)) (pi_range2 (by rfl) T.m_range (pa_cons (pe_op op_sub (pe_un un_neg (pe_ix ix_tup (pv 0) (pe_un un_neg pe_int) (fun _ _ => rfl))) pe_int) (pa_cons (pe_un un_neg (pe_ix ix_tup (pv 0) pe_int (fun _ _ => rfl))) pa_nil))) (blkOk_by (own := [("c", 2)]) (N := ["levels", "boxes", "c", "pair"]) (sc := (defScope s_core_in)) (by decide +kernel)) (fun _ _ _ _ _ => (pg_name (i := 2) sc_core_in.nd rfl (by first | exact Or.inl rfl | exact Or.inr rfl))) (fun _ _ _ _ _ => pts_nil) (fun _ _ _ _ _ => (pe_tup (pa_cons (pe_has h_level_sum (hr.mono (by decide)) (pa_cons (pv 0) (pa_cons (pv 2) pa_nil))) (pa_cons (pe_has h_missing_sum (hr.mono (by decide)) (pa_cons (pv 0) (pa_cons (pv 2) pa_nil))) pa_nil))))) (pss_one (ps_ret (pe_has h_heap_of_boxes (hr.mono (by decide)) (pa_cons (pe_lc rfl sc_core_in.nd (pi_list (pv 1)) (blkOk_by (own := [("pair", 3)]) (N := ["levels", "boxes", "c", "pair"]) (sc := (defScope s_core_in)) (by decide +kernel)) (fun _ _ _ _ _ => (pg_name (i := 3) sc_core_in.nd rfl (by first | exact Or.inl rfl | exact Or.inr rfl))) (fun _ _ _ _ _ => (pts_one (PW.pt (pw_and (pt_cmpR op_gt (pe_ix ix_T (pv 3) pe_int (fun _ _ => rfl)) pe_int (nomark _)) (pw_and1 (pt_cmpR op_gt (pe_ix ix_T (pv 3) pe_int (fun _ _ => rfl)) pe_int (nomark _))))))) (fun _ _ _ _ _ => (pv 3))) pa_nil))))), ?_⟩
  refine ⟨_, rfl, _, rfl, p, _, _, _, rfl, rfl, SqT.of hp, aL, _, rfl, _, _, rfl, rfl, _, rfl, p, _, _, _, rfl, rfl, SqT.of hp, aF, _, rfl, ?_⟩
  refine ⟨-lst ns - 1, -fst0 ns, rfl, ⟨by omega, by omega, by omega, by omega⟩, lc_all (walk_range (lo := -lst ns - 1) (n := (-fst0 ns - (-lst ns - 1)).toNat)) (by omega) (fun _ _ => trivial) IsP (fun _ _ _ _ t => IsT.tm t) (fun i => (lsum ns (-lst ns - 1 + (i : Int)), msum ns (-lst ns - 1 + (i : Int)))) (gm1 _) ?_ ?_⟩
  · rintro i x H' H'' hi e1 ⟨rfl, rfl⟩ S hS
    refine ⟨rfl, ?_⟩
    refine ⟨_, rfl, _, rfl, _, ns, _, rfl, IsT.mono e1 hT, by omega, ?_⟩
    rintro _ H2 e2 rfl
    refine ⟨_, rfl, _, rfl, _, ns, _, rfl, IsT.mono (e1.trans e2) hT, by omega, ?_⟩
    rintro _ H3 e3 rfl
    refine ⟨by show 2 ≤ sizeLine; decide, fun t nt => hS _ _ ((e2.trans e3).trans (Ex.new nt)) ⟨t, rfl, upd_same⟩⟩
  intro D H1 xs nD e1 hD hE
  have hxl := hE.1
  have hbl : (bxOf ns).length ≤ 5000 := by
    unfold bxOf
    rw [List.length_map, List.length_range]
    omega
  have hE' : Each (IsP H1) xs (bxOf ns) := hE
  refine ⟨_, rfl, D, rfl, ⟨_, SqL.of hD⟩, lc_go (walk_list (K := K) (xs := xs)) (by rw [hE'.1]; omega) (fun H' e => SqL.of (e.lst hD)) IsP (fun _ _ _ _ t => IsT.tm t) (fun j => decide (((bxOf ns).getD j default).1 > 0) && decide (((bxOf ns).getD j default).2 > 0)) (fun j => (bxOf ns).getD j default) ?_ ?_⟩
  · rintro j x H3 H4 hj e4 ⟨rfl, hxj⟩ F S2 hF hS2
    obtain ⟨b, hb, ⟨t, rfl, ht⟩⟩ := hE'.at' hxj
    rw [getD_d hb] at hF hS2
    have ht4 := e4.tup ht
    refine ⟨rfl, ?_⟩
    refine ⟨_, rfl, t, _, _, _, rfl, rfl, ht4, atI0, _, _, rfl, rfl, _, rfl, ite2 (fun c => ?_) fun c => ?_⟩
    · refine ⟨_, rfl, t, _, _, _, rfl, rfl, ht4, atI1, _, _, rfl, rfl, _, rfl, ite2 (fun d => ?_) fun d => ?_⟩
      · refine ⟨_, rfl, hS2 ?_ _ _ (Ex.refl _) ⟨t, rfl, ht4⟩⟩
        rw [show decide (b.1 > 0) = true from c, show decide (b.2 > 0) = true from d]
        rfl
      · refine hF ?_ _ (Ex.refl _)
        rw [show decide (b.2 > 0) = false from Bool.eq_false_iff.mpr d, Bool.and_false]
    · refine hF ?_ _ (Ex.refl _)
      rw [show decide (b.1 > 0) = false from Bool.eq_false_iff.mpr c, Bool.false_and]
  · intro D2 H2 zs nD2 e2 hD2 hE2
    rw [hE'.1, giv_filter (bxOf ns) (fun b => decide (b.1 > 0) && decide (b.2 > 0)) (fun b => b), List.map_id'] at hE2
    have wb := widest_bd (bs := (bxOf ns).filter fun b => decide (b.1 > 0) && decide (b.2 > 0)) fun b hb => by
      obtain ⟨hb1, _⟩ := List.mem_filter.mp hb
      obtain ⟨i, hi, rfl⟩ := List.mem_map.mp hb1
      have hi' := List.mem_range.mp hi
      exact lsum_bd ok (by omega)
    refine ⟨_, zs, _, rfl, ⟨D2, rfl, hD2⟩, hE2, Nat.le_trans (List.length_filter_le _ _) hbl, wb.1, by omega, ?_⟩
    exact fun u H3 e3 r => q u H3 ((e1.trans e2).trans e3) r
end K7

set_option Elab.async false
set_option linter.all false
set_option maxRecDepth 100000
set_option maxHeartbeats 4000000
namespace K7
open PySem PySem.Spec PyProof.Rows L2
variable {P : Program} {w : World} {K : PySem.W.Frag} {mg : Str → Option Value} {base : Heap}
theorem dec_int (a b : Int) : decide (V.int a = V.int b) = decide (a = b) := by
  by_cases h : a = b
  · subst h
    simp
  · rw [decide_eq_false h, decide_eq_false fun e => h (V.int.inj e)]
/-- whether the i-th column is the last of its height -/
def isE (h : List Int) (i : Nat) : Bool := decide ((i : Int) = h.length - 1) || decide (h.getD (i + 1) 0 < h.getD i 0)
def endsOf (h : List Int) : List Int := ((List.range h.length).filter (isE h)).map fun (i : Nat) => (i : Int)
def cr (h : List Int) (k : Int) : List Int := (endsOf h).map fun p => (p - nth h p + 1).fmod k
theorem ends_in {h : List Int} {p : Int} (m : p ∈ endsOf h) : 0 ≤ p ∧ p < h.length := by
  obtain ⟨i, hi, rfl⟩ := List.mem_map.mp m
  have := List.mem_range.mp (List.mem_filter.mp hi).1
  omega
def sp_corner_rests : Sp := fun vs H Q _ => ∃ v h k, vs = [v, .int k] ∧ IsT H v (iv h) ∧ h.length ≤ 40000 ∧ 0 < k ∧ Ret (fun u H' => IsL H' u (iv (cr h k))) H Q
theorem sc_corner_rests : FnScope ["heap", "order", "ends", "place", "height"] ["heap", "order"] (defScope s_corner_rests) := ⟨rfl, rfl, rfl, by decide +kernel, rfl, by decide +kernel, by decide +kernel⟩
theorem h_corner_rests (T : Top K mg) : Has P w K mg base "corner_rests" 1 ["heap", "order"] sp_corner_rests := by
  refine has_mk T 20 rfl rfl sc_corner_rests (fun _ _ _ _ _ _ us hl => match us, hl with | [_, _], _ => rfl) ?len fun f cdv A outer s H vs Q E hr h => ?main
  case len =>
    rintro vs H Q E ⟨v, h, k, rfl, _⟩
    rfl
  obtain ⟨v, hh, k, rfl, ⟨p, rfl, hp⟩, hl, hk, q⟩ := h
  refine ⟨_, (pss_cons (ps_setLc (i := 2) rfl sc_corner_rests.nd rfl rfl (sw_true rfl rfl rfl (by decide +kernel)) (pi_enumT (by rfl) T.m_enumerate (pa_cons (pv 0) pa_nil)) (blkOk_by (own := [("place", 3), ("height", 4)]) (N := ["heap", "order", "ends", "place", "height"]) (sc := (defScope s_corner_rests)) (by decide +kernel)) (fun _ _ _ _ _ => (pg_T (n := 2) rfl (pgs_cons (pg_name (i := 3) sc_corner_rests.nd rfl (by first | exact Or.inl rfl | exact Or.inr rfl)) (pgs_cons (pg_name (i := 4) sc_corner_rests.nd rfl (by first | exact Or.inl rfl | exact Or.inr rfl)) pgs_nil)))) (fun _ _ _ _ _ => (pts_one (PW.pt (pw_or (pt_cmpR op_eq (pv 3) (pe_op op_sub (pe_callB cr_len (by rfl) T.m_len PySem.boot_len (pa_cons (pv 0) pa_nil)) pe_int) (nomark _)) (pw_or1 (pt_cmpR op_lt (pe_ix ix_T (pv 0) (pe_op op_add (pv 3) pe_int) (fun _ _ => rfl)) (pv 4) (nomark _))))))) (fun _ _ _ _ _ => (pv 3))) (pss_one (ps_ret (pe_lc rfl sc_corner_rests.nd (pi_list (pv 2)) (blkOk_by (own := [("place", 3)]) (N := ["heap", "order", "ends", "place", "height"]) (sc := (defScope s_corner_rests)) (by decide +kernel)) (fun _ _ _ _ _ => (pg_name (i := 3) sc_corner_rests.nd rfl (by first | exact Or.inl rfl | exact Or.inr rfl))) (fun _ _ _ _ _ => pts_nil) (fun _ _ _ _ _ => (pe_op op_modN (pe_op op_add (pe_op op_sub (pv 3) (pe_ix ix_T (pv 0) (pv 3) (fun _ _ => rfl))) pe_int) (pv 1))))))), ?_⟩
  refine ⟨_, rfl, p, _, rfl, hp, lc_go (walk_enumT (a := p) (xs := iv hh)) (by rw [iv_len]; omega) (fun H' e => e.tup hp) (fun _ v (d : Int) => v = .int d) (fun _ _ _ _ _ h => h) (isE hh) (fun i => (i : Int)) ?_ ?_⟩
  · rintro i x H1 H2 hi e1 ⟨T1, y, z, rfl, nT, rfl, hy, hz⟩ F S hF hS
    cases hy
    obtain ⟨n, hn, rfl⟩ := iv_at hz
    have en := getD_at hn
    have e2 : Ex H1 (upd H1 T1 (.tup [.int (i : Nat), .int n])) := Ex.new nT
    have hp2 := (e1.trans e2).tup hp
    have hi' : i < hh.length := by rw [← iv_len hh]; exact hi
    refine gpT upd_same ⟨rfl, ?_⟩
    refine ⟨_, rfl, _, rfl, p, _, rfl, .inr hp2, _, _, rfl, rfl, rfl, _, rfl, ?_⟩
    rw [iv_len, dec_int]
    refine ite2 (fun c => ?_) fun c => ?_
    · refine iteT ⟨_, rfl, hS ?_ _ _ e2 rfl⟩
      unfold isE
      rw [c]
      rfl
    · have hi2 : ¬ (i : Int) = hh.length - 1 := fun z => c (decide_eq_true z)
      have a2 : atI (iv hh) ((i : Int) + 1) = some (.int (hh.getD (i + 1) 0)) := by
        have := nth_at (ns := hh) (i := (i : Int) + 1) (by omega) (by omega)
        unfold nth at this
        rw [show ((i : Int) + 1).toNat = i + 1 by omega] at this
        exact this
      refine ⟨_, rfl, _, rfl, _, _, rfl, rfl, p, _, _, _, rfl, rfl, hp2, a2, _, rfl, _, _, rfl, rfl, _, rfl, ?_⟩
      refine ite2 (fun d => ?_) fun d => ?_
      · refine ⟨_, rfl, hS ?_ _ _ e2 rfl⟩
        unfold isE
        rw [en, show decide (hh.getD (i + 1) 0 < n) = true from d, Bool.or_true]
      · refine hF ?_ _ e2
        unfold isE
        rw [en, show decide (hh.getD (i + 1) 0 < n) = false from Bool.eq_false_iff.mpr d, decide_eq_false hi2]
        rfl
  intro D H1 ys nD e1 hD hE
  have hD' : H1 D = some (.lst (iv (endsOf hh))) := by
    rw [hD, each_int hE, iv_len]
    rfl
  have hp1 := e1.tup hp
  have le : (endsOf hh).length ≤ hh.length := by
    unfold endsOf
    rw [List.length_map]
    exact Nat.le_trans (List.length_filter_le _ _) (by simp)
  refine ⟨_, rfl, D, rfl, ⟨_, SqL.of hD'⟩, lc_all (walk_list (K := K) (xs := iv (endsOf hh))) (by rw [iv_len]; omega) (fun H' e => SqL.of (e.lst hD')) (fun _ v (d : Int) => v = .int d) (fun _ _ _ _ _ h => h) (fun j => ((endsOf hh).getD j 0 - nth hh ((endsOf hh).getD j 0) + 1).fmod k) (gm1 _) ?_ ?_⟩
  · rintro j x H3 H4 hj e3 ⟨rfl, hxj⟩ S hS
    obtain ⟨n, hn, rfl⟩ := iv_at hxj
    have en := getD_at hn
    have bn := ends_in (List.mem_of_getElem? hn)
    rw [en] at hS
    refine ⟨rfl, _, rfl, _, rfl, _, rfl, p, _, _, _, rfl, rfl, e3.tup hp1, nth_at bn.1 bn.2, _, _, rfl, rfl, _, _, rfl, rfl, _, rfl, _, _, rfl, rfl, by omega, hS _ _ (Ex.refl _) rfl⟩
  · intro D2 H2 zs nD2 e2 hD2 hE2
    refine q _ _ (e1.trans e2) ⟨D2, rfl, ?_⟩
    rw [hD2, each_int hE2, iv_map (endsOf hh) fun p => (p - nth hh p + 1).fmod k]
    rfl
/-! a heap less the squares of a rest -/
def ind (h : List Int) (k r : Int) (i : Nat) : Int := if isE h i && decide (((i : Int) - h.getD i 0 + 1).fmod k = r) then 1 else 0
def wr0 (h : List Int) (k r : Int) : List Int := (List.range h.length).map fun i => h.getD i 0 - ind h k r i
def wr (h : List Int) (k r : Int) : List Int := (wr0 h k r).filter fun n => decide (n > 0)
theorem wr0_at {h : List Int} {k r : Int} {i : Nat} (hi : i < h.length) : (wr0 h k r)[i]? = some (h.getD i 0 - ind h k r i) := by
  unfold wr0
  rw [List.getElem?_map, List.getElem?_range hi]
  rfl
theorem wr0_len (h : List Int) (k r : Int) : (wr0 h k r).length = h.length := by
  unfold wr0
  rw [List.length_map, List.length_range]
def sp_without_rest : Sp := fun vs H Q _ => ∃ v h k r, vs = [v, .int k, .int r] ∧ IsT H v (iv h) ∧ h.length ≤ 40000 ∧ 0 < k ∧ Ret (fun u H' => IsT H' u (iv (wr h k r))) H Q
theorem sc_without_rest : FnScope ["heap", "order", "rest", "found", "place", "height", "is_end"] ["heap", "order", "rest"] (defScope s_without_rest) := ⟨rfl, rfl, rfl, by decide +kernel, rfl, by decide +kernel, by decide +kernel⟩
theorem h_without_rest (T : Top K mg) : Has P w K mg base "without_rest" 1 ["heap", "order", "rest"] sp_without_rest := by
  refine has_mk T 21 rfl rfl sc_without_rest (fun _ _ _ _ _ _ us hl => match us, hl with | [_, _, _], _ => rfl) ?len fun f cdv A outer s H vs Q E hr h => ?main
  case len =>
    rintro vs H Q E ⟨v, h, k, r, rfl, _⟩
    rfl
  obtain ⟨v, hh, k, r, rfl, ⟨p, rfl, hp⟩, hl, hk, q⟩ := h
  refine ⟨_, (pss_cons (ps_set (i := 3) sc_without_rest.nd rfl (by first | exact Or.inl rfl | exact Or.inr rfl) (pe_lst pa_nil)) (pss_cons (ps_for PassesOwn.never rfl (pi_enumT (by rfl) T.m_enumerate (pa_cons (pv 0) pa_nil)) (pg_tup rfl (pgs_cons (pg_name (i := 4) sc_without_rest.nd rfl (by first | exact Or.inl rfl | exact Or.inr rfl)) (pgs_cons (pg_name (i := 5) sc_without_rest.nd rfl (by first | exact Or.inl rfl | exact Or.inr rfl)) pgs_nil))) (pss_cons (ps_set (i := 6) sc_without_rest.nd rfl (by first | exact Or.inl rfl | exact Or.inr rfl) (pe_or (pe_cmpR op_eq (pv 4) (pe_op op_sub (pe_callB call_len_seq (by rfl) T.m_len PySem.boot_len (pa_cons (pv 0) pa_nil)) pe_int) (nomark _)) (pe_one (pe_cmpR op_lt (pe_ix ix_tup (pv 0) (pe_op op_add (pv 4) pe_int) (fun _ _ => rfl)) (pv 5) (nomark _))))) (pss_one (ps_expr (pe_bm PySem.F.plainAttrs_list PySem.F.slot_list_append PySem.F.type_list_append mt_append (pv 3) (pa_cons (pe_op op_sub (pv 5) (pe_callTy call_int1 (by rfl) T.m_int (by decide +kernel) (pa_cons (pe_and (pv 6) (pe_one (pe_cmpR op_eq (pe_op op_modN (pe_op op_add (pe_op op_sub (pv 4) (pv 5)) pe_int) (pv 1)) (pv 2) (nomark _)))) pa_nil))) pa_nil)))))) (pss_one (ps_ret (pe_callTy call_tuple_of (by rfl) T.m_tuple (by decide +kernel) (pa_cons (pe_lc rfl sc_without_rest.nd (pi_list (pv 3)) (blkOk_by (own := [("height", 5)]) (N := ["heap", "order", "rest", "found", "place", "height", "is_end"]) (sc := (defScope s_without_rest)) (by decide +kernel)) (fun _ _ _ _ _ => (pg_name (i := 5) sc_without_rest.nd rfl (by first | exact Or.inl rfl | exact Or.inr rfl))) (fun _ _ _ _ _ => (pts_one (pt_cmpR op_gt (pv 5) pe_int (nomark _)))) (fun _ _ _ _ _ => (pv 5))) pa_nil)))))), ?_⟩
  refine ⟨Nat.zero_le _, fun l nl => ?_⟩
  have e0 : Ex H (upd H l (.lst [])) := Ex.new nl
  refine ⟨_, rfl, p, _, rfl, e0.tup hp, for_it (walk_enumT (a := p) (xs := iv hh)) (fun i σ H' => ∃ a b c, σ = [some (.ref p), some (.int k), some (.int r), some (.ref l), a, b, c] ∧ Ex H H' ∧ H' l = some (.lst (iv ((wr0 hh k r).take i)))) ⟨none, none, none, rfl, e0, upd_same⟩ (fun i σ H' hi ⟨_, _, _, _, e, _⟩ => e.tup hp) ?_ ?_⟩
  · rintro i x σ H1 H2 hi ⟨a, b, c, rfl, e1, hl1⟩ ⟨T1, y, z, rfl, nT, rfl, hy, hz⟩
    cases hy
    obtain ⟨n, hn, rfl⟩ := iv_at hz
    have en := getD_at hn
    have e2 : Ex H (upd H1 T1 (.tup [.int (i : Nat), .int n])) := e1.trans (Ex.new nT)
    have hp2 := e2.tup hp
    have hl2 : (upd H1 T1 (.tup [.int (i : Nat), .int n])) l = some (.lst (iv ((wr0 hh k r).take i))) := (Ex.new nT).lst hl1
    have hi' : i < hh.length := by rw [← iv_len hh]; exact hi
    refine ⟨T1, _, rfl, SqT.of upd_same, rfl, _, _, rfl, _, _, rfl, rfl, ?_⟩
    refine orV_val (decide ((i : Int) = hh.length - 1)) (decide (hh.getD (i + 1) 0 < n)) (fun Q q => ?_) (fun c Q q => ?_) ?_
    · refine ⟨_, rfl, _, rfl, p, _, rfl, .inr (SqT.of hp2), _, _, rfl, rfl, rfl, ?_⟩
      rw [iv_len, dec_int]
      exact q
    · have hi2 : ¬ (i : Int) = hh.length - 1 := of_decide_eq_false c
      have a2 : atI (iv hh) ((i : Int) + 1) = some (.int (hh.getD (i + 1) 0)) := by
        have := nth_at (ns := hh) (i := (i : Int) + 1) (by omega) (by omega)
        unfold nth at this
        rw [show ((i : Int) + 1).toNat = i + 1 by omega] at this
        exact this
      exact ⟨_, rfl, _, rfl, _, _, rfl, rfl, p, _, _, _, rfl, rfl, SqT.of hp2, a2, _, rfl, _, _, rfl, rfl, q⟩
    have eE : (decide ((i : Int) = hh.length - 1) || decide (hh.getD (i + 1) 0 < n)) = isE hh i := by
      unfold isE
      rw [en]
    rw [eE]
    refine ⟨_, rfl, .inl ⟨rfl, _, SqL.of hl2⟩, _, rfl, ?_⟩
    refine andV_val (isE hh i) (decide (((i : Int) - n + 1).fmod k = r)) (fun Q q => ⟨_, rfl, q⟩) (fun _ Q q => ?_) ?_
    · refine ⟨_, rfl, _, rfl, _, _, rfl, rfl, _, _, rfl, rfl, _, rfl, _, _, rfl, rfl, by omega, _, rfl, rfl, ?_⟩
      rw [dec_int]
      exact q
    refine .inr ⟨_, rfl, n, _, rfl, rfl, l, _, _, rfl, rfl, hl2, ?_, ?_⟩
    · rw [iv_len, List.length_take]
      exact szl _ (by omega)
    refine ⟨_, _, _, rfl, e2.mut nl, ?_⟩
    have ei : b2i (isE hh i && decide (((i : Int) - n + 1).fmod k = r)) = ind hh k r i := by
      unfold ind
      rw [en]
      cases isE hh i && decide (((i : Int) - n + 1).fmod k = r) <;> rfl
    rw [upd_same, List.take_add_one, wr0_at hi', en]
    show some (HO.lst (iv ((wr0 hh k r).take i) ++ [V.int (n - b2i (isE hh i && decide (((i : Int) - n + 1).fmod k = r)))])) = _
    rw [ei]
    show _ = some (HO.lst (List.map V.int ((wr0 hh k r).take i ++ [n - ind hh k r i])))
    rw [List.map_append]
    rfl
  · rintro σ H1 ⟨a, b, c, rfl, e1, hl1⟩
    rw [iv_len, List.take_of_length_le (by rw [wr0_len]; exact Nat.le_refl _)] at hl1
    refine ⟨_, rfl, l, rfl, ⟨_, SqL.of hl1⟩, lc_go (walk_list (K := K) (xs := iv (wr0 hh k r))) (by rw [iv_len, wr0_len]; omega) (fun H' e => SqL.of (e.lst hl1)) (fun _ v (d : Int) => v = .int d) (fun _ _ _ _ _ h => h) (fun j => decide ((wr0 hh k r).getD j default > 0)) (fun j => (wr0 hh k r).getD j default) ?_ ?_⟩
    · rintro j x H3 H4 hj e3 ⟨rfl, hxj⟩ F S hF hS
      obtain ⟨n, hn, rfl⟩ := iv_at hxj
      rw [getD_d hn] at hF hS
      refine ⟨rfl, _, rfl, _, _, rfl, rfl, _, rfl, ite2 (fun c => ?_) fun c => ?_⟩
      · exact ⟨_, rfl, hS c _ _ (Ex.refl _) rfl⟩
      · exact hF (Bool.eq_false_iff.mpr c) _ (Ex.refl _)
    · intro D2 H2 zs nD2 e2 hD2 hE2
      rw [iv_len, giv_filter (wr0 hh k r) (fun n => decide (n > 0)) (fun n => n), List.map_id'] at hE2
      refine ⟨D2, _, rfl, .inl ⟨SqL.of hD2, fun t nt => q _ _ ((e1.trans e2).trans (Ex.new nt)) ⟨t, rfl, ?_⟩⟩⟩
      rw [upd_same, each_int hE2]
      rfl
/-! the letters by which a heap is taken away -/
def stp (k : Int) (s : List Int × List Int) : List Int × List Int := if s.1 = [] then s else (wr s.1 k ((cr s.1 k).headD 0), s.2 ++ [(cr s.1 k).headD 0])
def run (k : Int) : Nat → List Int × List Int → List Int × List Int
  | 0, s => s
  | n + 1, s => run k n (stp k s)
/-- the letters -/
def ld (h : List Int) (k : Int) : List Int := (run k h.sum.toNat (h, [])).2
theorem run_end (k : Int) (f : List Int) : ∀ n, run k n ([], f) = ([], f)
  | 0 => rfl
  | n + 1 => by
    show run k n (stp k ([], f)) = _
    rw [show stp k ([], f) = ([], f) from if_pos rfl]
    exact run_end k f n
theorem run_succ (k : Int) : ∀ n s, run k (n + 1) s = stp k (run k n s)
  | 0, s => rfl
  | n + 1, s => run_succ k n (stp k s)
theorem run_add (k : Int) : ∀ m n s, run k (m + n) s = run k n (run k m s)
  | 0, n, s => by rw [Nat.zero_add]; rfl
  | m + 1, n, s => by
    rw [Nat.add_right_comm]
    exact run_add k m n (stp k s)
/-! each turn takes a square at least -/
theorem sum_sub (a b : Nat → Int) : ∀ l : List Nat, (l.map fun i => a i - b i).sum = (l.map a).sum - (l.map b).sum
  | [] => rfl
  | x :: r => by
    rw [List.map_cons, List.map_cons, List.map_cons, List.sum_cons, List.sum_cons, List.sum_cons, sum_sub a b r]
    omega
theorem sum_ge (b : Nat → Int) (h0 : ∀ i, 0 ≤ b i) : ∀ l : List Nat, 0 ≤ (l.map b).sum ∧ ∀ i ∈ l, b i ≤ (l.map b).sum
  | [] => ⟨Int.le_refl _, fun i h => by cases h⟩
  | x :: r => by
    obtain ⟨h1, h2⟩ := sum_ge b h0 r
    rw [List.map_cons, List.sum_cons]
    have hx := h0 x
    refine ⟨by omega, fun i hi => ?_⟩
    rcases List.mem_cons.mp hi with rfl | hi
    · omega
    · have := h2 i hi
      omega
theorem sum_filter : ∀ l : List Int, (∀ n ∈ l, 0 ≤ n) → (l.filter fun n => decide (n > 0)).sum = l.sum
  | [], _ => rfl
  | x :: r, h => by
    have ih := sum_filter r fun n hn => h n (List.mem_cons_of_mem _ hn)
    have hx := h x List.mem_cons_self
    rw [List.filter_cons]
    by_cases c : x > 0
    · rw [if_pos (decide_eq_true c), List.sum_cons, List.sum_cons, ih]
    · rw [if_neg (by simp; omega), List.sum_cons, ih]
      omega
theorem map_getD (h : List Int) : (List.range h.length).map (fun i => h.getD i 0) = h := (map_range_get h fun n => n).trans (List.map_id' h)
def pos (h : List Int) : Prop := ∀ n ∈ h, 0 < n
theorem wr_pos (h : List Int) (k r : Int) : pos (wr h k r) := fun n hn => of_decide_eq_true (List.mem_filter.mp hn).2
theorem ends_ne {h : List Int} (hn : h ≠ []) : endsOf h ≠ [] := by
  have hl : 0 < h.length := List.length_pos_iff.mpr hn
  have m : ((h.length - 1 : Nat) : Int) ∈ endsOf h := by
    unfold endsOf
    refine List.mem_map.mpr ⟨h.length - 1, List.mem_filter.mpr ⟨List.mem_range.mpr (by omega), ?_⟩, rfl⟩
    unfold isE
    rw [decide_eq_true (by omega : ((h.length - 1 : Nat) : Int) = h.length - 1)]
    rfl
  intro e
  rw [e] at m
  cases m
theorem wr_less {h : List Int} (k : Int) (hp : pos h) (hn : h ≠ []) : (wr h k ((cr h k).headD 0)).sum < h.sum ∧ (wr h k ((cr h k).headD 0)).length ≤ h.length := by
  obtain ⟨p, t, e⟩ := List.exists_cons_of_ne_nil (ends_ne hn)
  have m : p ∈ endsOf h := by rw [e]; exact List.mem_cons_self
  obtain ⟨i, hi, ei⟩ := List.mem_map.mp m
  obtain ⟨h1, h2⟩ := List.mem_filter.mp hi
  have hr : (cr h k).headD 0 = ((i : Int) - h.getD i 0 + 1).fmod k := by
    unfold cr
    rw [e, List.map_cons]
    show (p - nth h p + 1).fmod k = _
    rw [← ei]
    rfl
  have g0 : ∀ j, 0 ≤ ind h k ((cr h k).headD 0) j := fun j => by unfold ind; split <;> decide
  have g1 : ∀ j, ind h k ((cr h k).headD 0) j ≤ 1 := fun j => by unfold ind; split <;> decide
  have gi : ind h k ((cr h k).headD 0) i = 1 := by
    unfold ind
    rw [h2, hr, decide_eq_true rfl]
    rfl
  have s1 : (wr0 h k ((cr h k).headD 0)).sum = h.sum - ((List.range h.length).map (ind h k ((cr h k).headD 0))).sum := by
    unfold wr0
    rw [sum_sub (fun j => h.getD j 0), map_getD]
  have s2 := (sum_ge _ g0 (List.range h.length)).2 i h1
  have s3 : ∀ n ∈ wr0 h k ((cr h k).headD 0), 0 ≤ n := fun n hn => by
    obtain ⟨j, hj, rfl⟩ := List.mem_map.mp hn
    have a := hp _ (getD_mem (List.mem_range.mp hj))
    have b := g1 j
    omega
  have s4 := sum_filter _ s3
  refine ⟨?_, ?_⟩
  · unfold wr
    rw [s4, s1]
    omega
  · unfold wr
    refine Nat.le_trans (List.length_filter_le _ _) ?_
    rw [wr0_len]
    exact Nat.le_refl _
end K7

set_option Elab.async false
set_option linter.all false
set_option maxRecDepth 100000
set_option maxHeartbeats 4000000
namespace K7
open PySem PySem.Spec PyProof.Rows L2
variable {P : Program} {w : World} {K : PySem.W.Frag} {mg : Str → Option Value} {base : Heap}
theorem pos_sum {h : List Int} (hp : pos h) (hn : h ≠ []) : 0 < h.sum := by
  cases h with
  | nil => exact absurd rfl hn
  | cons x r =>
    have h1 := hp x List.mem_cons_self
    have h2 : 0 ≤ r.sum := by
      clear h1 hn
      induction r with
      | nil => exact Int.le_refl _
      | cons y t ih =>
        rw [List.sum_cons]
        have := hp y (List.mem_cons_of_mem _ List.mem_cons_self)
        have := ih fun n hn => by
          rcases List.mem_cons.mp hn with rfl | hn
          · exact hp _ List.mem_cons_self
          · exact hp _ (List.mem_cons_of_mem _ (List.mem_cons_of_mem _ hn))
        omega
    rw [List.sum_cons]
    omega
theorem run_done (k : Int) : ∀ (n : Nat) (h f : List Int), pos h → h.sum.toNat ≤ n → (run k n (h, f)).1 = []
  | 0, h, f, hp, hs => by
    by_cases hn : h = []
    · exact hn
    · have := pos_sum hp hn
      omega
  | n + 1, h, f, hp, hs => by
    by_cases hn : h = []
    · subst hn
      rw [run_end]
    · have e : stp k (h, f) = (wr h k ((cr h k).headD 0), f ++ [(cr h k).headD 0]) := if_neg hn
      show (run k n (stp k (h, f))).1 = []
      rw [e]
      have := (wr_less k hp hn).1
      exact run_done k n _ _ (wr_pos h k _) (by omega)
theorem run_more (k : Int) {h f : List Int} (hp : pos h) {n : Nat} (hs : h.sum.toNat ≤ n) : run k n (h, f) = run k h.sum.toNat (h, f) := by
  obtain ⟨d, rfl⟩ : ∃ d, n = h.sum.toNat + d := ⟨n - h.sum.toNat, by omega⟩
  rw [run_add]
  have q := run_done k h.sum.toNat h f hp (Nat.le_refl _)
  generalize run k h.sum.toNat (h, f) = s at q
  obtain ⟨a, b⟩ := s
  cases q
  exact run_end k b d
def sp_letters_down : Sp := fun vs H Q _ => ∃ v h k, vs = [v, .int k] ∧ IsT H v (iv h) ∧ h.length ≤ 40000 ∧ h.sum ≤ 90000 ∧ pos h ∧ 0 < k ∧ Ret (fun u H' => IsL H' u (iv (ld h k))) H Q
theorem sc_letters_down : FnScope ["heap", "order", "found"] ["heap", "order"] (defScope s_letters_down) := ⟨rfl, rfl, rfl, by decide +kernel, rfl, by decide +kernel, by decide +kernel⟩
theorem h_letters_down (T : Top K mg) (h_corner_rests : Has P w K mg base "corner_rests" 1 ["heap", "order"] sp_corner_rests) (h_without_rest : Has P w K mg base "without_rest" 1 ["heap", "order", "rest"] sp_without_rest) : Has P w K mg base "letters_down" 2 ["heap", "order"] sp_letters_down := by
  refine has_mk T 22 rfl rfl sc_letters_down (fun _ _ _ _ _ _ us hl => match us, hl with | [_, _], _ => rfl) ?len fun f cdv A outer s H vs Q E hr h => ?main
  case len =>
    rintro vs H Q E ⟨v, h, k, rfl, _⟩
    rfl
  obtain ⟨v, hh, k, rfl, hT, hl, hs, hp, hk, q⟩ := h
  refine ⟨_, (pss_cons (ps_set (i := 2) sc_letters_down.nd rfl (by first | exact Or.inl rfl | exact Or.inr rfl) (pe_lst pa_nil)) (pss_cons (ps_while PassesOwn.never (pt_cmpR (op_neT hr.units) (pv 0) (pe_tup pa_nil) (nomark _)) (pss_cons (ps_expr (pe_bm PySem.F.plainAttrs_list PySem.F.slot_list_append PySem.F.type_list_append mt_append (pv 2) (pa_cons (pe_ix ix_list (pe_has h_corner_rests (hr.mono (by decide)) (pa_cons (pv 0) (pa_cons (pv 1) pa_nil))) pe_int (fun _ _ => rfl)) pa_nil))) (pss_one (ps_set (i := 0) sc_letters_down.nd rfl (by first | exact Or.inl rfl | exact Or.inr rfl) (pe_has h_without_rest (hr.mono (by decide)) (pa_cons (pv 0) (pa_cons (pv 1) (pa_cons (pe_ix ix_list (pv 2) (pe_un un_neg pe_int) (fun _ _ => rfl)) pa_nil)))))))) (pss_one (ps_ret (pv 2))))), ?_⟩
  refine ⟨Nat.zero_le _, fun l nl => ?_⟩
  have e0 : Ex H (upd H l (.lst [])) := Ex.new nl
  refine ⟨fun m σ H' => ∃ u h f, σ = [some u, some (.int k), some (.ref l)] ∧ IsT H' u (iv h) ∧ Ex H H' ∧ H' l = some (.lst (iv f)) ∧ m = h.sum.toNat ∧ pos h ∧ h.length ≤ 40000 ∧ f.length + h.sum.toNat ≤ 90000 ∧ (run k h.sum.toNat (h, f)).2 = ld hh k, ⟨_, v, hh, [], rfl, hT.mono e0, e0, upd_same, rfl, hp, hl, ?_, rfl⟩, ?_⟩
  · simp
    omega
  rintro m σ H1 ⟨u, h, f, rfl, hu, e1, hl1, rfl, hp1, hz, hf, hrun⟩
  refine ⟨_, rfl, Nat.zero_le _, fun t nt => ?_⟩
  have e2 : Ex H1 (upd H1 t (.tup [])) := Ex.new nt
  refine ⟨h, [], hu.mono e2, ⟨t, rfl, upd_same⟩, _, rfl, ite2 (fun c => ?_) fun c => ?_⟩
  · have hn : h ≠ [] := by
      intro z
      subst z
      cases c
    have less := wr_less k hp1 hn
    have hstp : stp k (h, f) = (wr h k ((cr h k).headD 0), f ++ [(cr h k).headD 0]) := if_neg hn
    have spos := pos_sum hp1 hn
    have hcr : ∃ r t, cr h k = r :: t := by
      unfold cr
      obtain ⟨p, t, e⟩ := List.exists_cons_of_ne_nil (ends_ne hn)
      rw [e]
      exact ⟨_, _, rfl⟩
    obtain ⟨r, rt, er⟩ := hcr
    rw [er] at less hstp
    refine ⟨_, fun σ' H' p => p, ?_⟩
    refine ⟨_, rfl, .inl ⟨rfl, _, SqL.of (e2.lst hl1)⟩, _, rfl, _, rfl, u, h, k, rfl, hu.mono e2, hz, hk, ?_⟩
    rintro _ H2 e3 ⟨d, rfl, hd⟩
    have hl2 := (e2.trans e3).lst hl1
    refine ⟨d, _, _, .int r, rfl, rfl, SqL.of hd, ?_, l, _, _, rfl, rfl, hl2, ?_, ?_⟩
    · rw [er]
      exact atI_nat (j := 0) rfl
    · rw [iv_len]
      exact szl _ (by omega)
    have ef : iv f ++ [V.int r] = iv (f ++ [r]) := by
      show _ = List.map V.int (f ++ [r])
      rw [List.map_append]
      rfl
    rw [ef]
    have e4 : Ex H (upd H2 l (.lst (iv (f ++ [r])))) := ((e1.trans e2).trans e3).mut nl
    have hu4 : IsT (upd H2 l (.lst (iv (f ++ [r])))) u (iv h) := ((hu.mono (e2.trans e3)).tm (TEx.lst hl2))
    refine ⟨_, rfl, _, rfl, _, rfl, _, rfl, l, _, _, .int r, rfl, rfl, SqL.of upd_same, atI_m1 ?_, u, h, k, r, rfl, hu4, hz, hk, ?_⟩
    · rw [iv_len, List.length_append, List.length_singleton, Nat.add_sub_cancel]
      exact at_iv (by simp)
    rintro u2 H3 e5 hu5
    refine ⟨(wr h k r).sum.toNat, by have := less.1; simp at this; omega, u2, wr h k r, f ++ [r], rfl, hu5, e4.trans e5, e5.lst upd_same, rfl, wr_pos h k r, ?_, ?_, ?_⟩
    · exact Nat.le_trans less.2 hz
    · have := less.1
      simp at this
      rw [List.length_append, List.length_singleton]
      omega
    · rw [← hrun]
      obtain ⟨n, en⟩ : ∃ n, h.sum.toNat = n + 1 := ⟨h.sum.toNat - 1, by omega⟩
      rw [en]
      show _ = (run k n (stp k (h, f))).2
      rw [hstp]
      have := less.1
      simp at this
      show _ = (run k n (wr h k r, f ++ [r])).2
      rw [run_more k (wr_pos h k r) (n := n) (by omega)]
  · have hn : h = [] := by
      by_cases z : h = []
      · exact z
      · exfalso
        apply c
        rw [decide_eq_false z]
        rfl
    subst hn
    refine ⟨_, rfl, q _ _ (e1.trans e2) ⟨l, rfl, ?_⟩⟩
    rw [← hrun]
    exact e2.lst hl1
end K7

set_option Elab.async false
set_option linter.all false
set_option maxRecDepth 100000
set_option maxHeartbeats 4000000
namespace K7
open PySem PySem.Spec PyProof.Rows L2
variable {P : Program} {w : World} {K : PySem.W.Frag} {mg : Str → Option Value} {base : Heap}
/-! a class with some levels -/
def rs0 (ns : List Int) : List Int := (ld (core ns) ns.length).reverse
def lastOr (l : List Int) : Int := if l = [] then 1 else l.getD (l.length - 1) 0
def rsts (ns : List Int) (g : Nat) : List Int := rs0 ns ++ List.replicate (g - (rs0 ns).length) (lastOr (rs0 ns))
def plc (rs : List Rg) (ts : List Int) : List Int := (List.range (min rs.length ts.length)).map fun i => (ts.getD i 0 * (rs.getD i default).2).fmod (rs.getD i default).1
def IsCl (H : Hp) (v : V) (d : Int) (pl : List Int) : Prop := ∃ u, IsT H v [.int d, u] ∧ IsT H u (iv pl)
theorem IsCl.mono {H H' : Hp} {v : V} {d : Int} {pl : List Int} (e : Ex H H') (h : IsCl H v d pl) : IsCl H' v d pl := by
  obtain ⟨u, a, b⟩ := h
  exact ⟨u, a.mono e, b.mono e⟩
theorem core_sum {ns : List Int} (o : okL ns) : (core ns).sum ≤ 90000 := by
  obtain ⟨h1, h2⟩ := core_ok o
  have q := (sum_bd 140 (core ns) fun x hx => ⟨by have := h2 x hx; omega, (h2 x hx).2⟩).2
  have : ((core ns).length : Int) * 140 ≤ 140 * 140 := Int.mul_le_mul_of_nonneg_right (by omega) (by decide)
  omega
theorem run_len (k : Int) : ∀ (n : Nat) (h f : List Int), (run k n (h, f)).2.length ≤ f.length + n
  | 0, h, f => Nat.le_refl _
  | n + 1, h, f => by
    show (run k n (stp k (h, f))).2.length ≤ f.length + (n + 1)
    unfold stp
    by_cases hn : h = []
    · rw [if_pos hn]
      have h1 : (run k n (h, f)).2.length ≤ f.length + n := run_len k n h f
      exact Nat.le_trans h1 (Nat.le_succ _)
    · rw [if_neg hn]
      refine Nat.le_trans (run_len k n _ _) ?_
      rw [List.length_append, List.length_singleton]
      show f.length + 1 + n ≤ f.length + (n + 1)
      omega
theorem rs0_len {ns : List Int} (o : okL ns) : (rs0 ns).length ≤ 90000 := by
  unfold rs0 ld
  rw [List.length_reverse]
  have := run_len ns.length (core ns).sum.toNat (core ns) []
  have := core_sum o
  simp at *
  omega
def sp_class_in_levels : Sp := fun vs H Q _ => ∃ v u rs ns, vs = [v, u] ∧ IsC H v rs ∧ okC rs ∧ IsT H u (iv ns) ∧ okL ns ∧
  Ret (fun z H' => if dist ns > rs.length then z = .non else IsCl H' z (ns.sum + rs.length + ns.length - 1) (plc rs (rsts ns rs.length))) H Q
theorem sc_class_in_levels : FnScope ["chain", "levels", "rests", "turn", "places", "ring", "rest"] ["chain", "levels"] (defScope s_class_in_levels) := ⟨rfl, rfl, rfl, by decide +kernel, rfl, by decide +kernel, by decide +kernel⟩
theorem h_class_in_levels (T : Top K mg) (h_distance_in : Has P w K mg base "distance_in" 1 ["levels"] sp_distance_in) (h_core_in : Has P w K mg base "core_in" 2 ["levels"] sp_core_in) (h_letters_down : Has P w K mg base "letters_down" 2 ["heap", "order"] sp_letters_down) : Has P w K mg base "class_in_levels" 3 ["chain", "levels"] sp_class_in_levels := by
  refine has_mk T 23 rfl rfl sc_class_in_levels (fun _ _ _ _ _ _ us hl => match us, hl with | [_, _], _ => rfl) ?len fun f cdv A outer s H vs Q E hr h => ?main
  case len =>
    rintro vs H Q E ⟨v, u, rs, ns, rfl, _⟩
    rfl
  obtain ⟨v, u, rs, ns, rfl, hC, okc, hT, okl, q⟩ := h
  obtain ⟨xs, ⟨p, rfl, hp⟩, he⟩ := id hC
  have hxl := he.1
  obtain ⟨c1, c2, c3⟩ := okc
  have l7 := okl.2.1
  refine ⟨_, (pss_cons (ps_if (pt_cmpR op_gt (pe_has h_distance_in (hr.mono (by decide)) (pa_cons (pv 1) pa_nil)) (pe_callB call_len_seq (by rfl) T.m_len PySem.boot_len (pa_cons (pv 0) pa_nil)) (nomark _)) (pss_one (ps_ret pe_non)) pss_nil) (pss_cons (ps_set (i := 2) sc_class_in_levels.nd rfl (by first | exact Or.inl rfl | exact Or.inr rfl) (pe_revL (pe_has h_letters_down (hr.mono (by decide)) (pa_cons (pe_has h_core_in (hr.mono (by decide)) (pa_cons (pv 1) pa_nil)) (pa_cons (pe_callB call_len_seq (by rfl) T.m_len PySem.boot_len (pa_cons (pv 1) pa_nil)) pa_nil))))) (pss_cons (ps_set (i := 2) sc_class_in_levels.nd rfl (by first | exact Or.inl rfl | exact Or.inr rfl) (pe_lst (StX.pa_star (pv 2) (StX.pa_star (pe_lc rfl sc_class_in_levels.nd (pi_range1 (by rfl) T.m_range (pa_cons (pe_op op_sub (pe_callB call_len_seq (by rfl) T.m_len PySem.boot_len (pa_cons (pv 0) pa_nil)) (pe_callB call_len_seq (by rfl) T.m_len PySem.boot_len (pa_cons (pv 2) pa_nil))) pa_nil)) (blkOk_by (own := [("turn", 3)]) (N := ["chain", "levels", "rests", "turn", "places", "ring", "rest"]) (sc := (defScope s_class_in_levels)) (by decide +kernel)) (fun _ _ _ _ _ => (pg_name (i := 3) sc_class_in_levels.nd rfl (by first | exact Or.inl rfl | exact Or.inr rfl))) (fun _ _ _ _ _ => pts_nil) (fun _ _ _ _ _ => (pe_ifExp (pt_cmpR (op_neL hr.units) (pv 2) (pe_lst pa_nil) (nomark _)) (pe_ix ix_L (pv 2) (pe_un un_neg pe_int) (fun _ _ => rfl)) pe_int))) pa_nil)))) (pss_cons (ps_set (i := 4) sc_class_in_levels.nd rfl (by first | exact Or.inl rfl | exact Or.inr rfl) (pe_callTy call_tuple_of (by rfl) T.m_tuple (by decide +kernel) (pa_cons (pe_lc rfl sc_class_in_levels.nd (pi_zipTL (by rfl) T.m_zip (pa_cons (pv 0) (pa_cons (pv 2) pa_nil))) (blkOk_by (own := [("ring", 5), ("rest", 6)]) (N := ["chain", "levels", "rests", "turn", "places", "ring", "rest"]) (sc := (defScope s_class_in_levels)) (by decide +kernel)) (fun _ _ _ _ _ => (pg_T (n := 2) rfl (pgs_cons (pg_name (i := 5) sc_class_in_levels.nd rfl (by first | exact Or.inl rfl | exact Or.inr rfl)) (pgs_cons (pg_name (i := 6) sc_class_in_levels.nd rfl (by first | exact Or.inl rfl | exact Or.inr rfl)) pgs_nil)))) (fun _ _ _ _ _ => pts_nil) (fun _ _ _ _ _ => (pe_op op_modN (pe_op op_mul (pv 6) (pe_ix ix_T (pv 5) pe_int (fun _ _ => rfl))) (pe_ix ix_T (pv 5) pe_int (fun _ _ => rfl))))) pa_nil))) (pss_one (ps_ret (pe_tup (pa_cons (pe_op op_sub (pe_op op_add (pe_op op_add (pe_callB (cr_sumT rfl) (by rfl) T.m_sum (by decide +kernel) (pa_cons (pv 1) pa_nil)) (pe_callB call_len_seq (by rfl) T.m_len PySem.boot_len (pa_cons (pv 0) pa_nil))) (pe_callB call_len_seq (by rfl) T.m_len PySem.boot_len (pa_cons (pv 1) pa_nil))) pe_int) (pa_cons (pv 4) pa_nil))))))))), ?_⟩
  refine ⟨_, rfl, u, ns, rfl, hT, by omega, ?_⟩
  rintro _ H1 e1 rfl
  refine ⟨_, rfl, p, _, rfl, .inr (SqT.of (e1.tup hp)), _, _, rfl, rfl, _, rfl, ite2 (fun c => ?_) fun c => ?_⟩
  · have hc : dist ns > rs.length := by rw [← hxl]; exact of_decide_eq_true c
    refine q _ _ e1 ?_
    show (if dist ns > rs.length then V.non = V.non else _)
    rw [if_pos hc]
  have hc : ¬ dist ns > rs.length := by rw [← hxl]; exact fun z => c (decide_eq_true z)
  refine ⟨_, rfl, u, ns, rfl, hT.mono e1, okl, ?_⟩
  rintro cv H2 e2 hcv
  obtain ⟨a, rfl, ha⟩ := hT.mono (e1.trans e2)
  refine ⟨_, rfl, a, _, rfl, .inr (SqT.of ha), cv, core ns, _, rfl, hcv, ?_, core_sum okl, fun n hn => ((core_ok okl).2 n hn).1, by rw [iv_len]; have := okl.1; omega, ?_⟩
  · have := (core_ok okl).1
    omega
  rintro _ H3 e3 ⟨b, rfl, hb⟩
  refine ⟨b, _, rfl, SqL.of hb, fun l nl => ?_⟩
  have er : (iv (ld (core ns) (iv ns).length)).reverse = iv (rs0 ns) := by
    rw [iv_len]
    exact (List.map_reverse).symm
  rw [er]
  have e4 := ((e1.trans e2).trans e3).trans (Ex.new (o := .lst (iv (rs0 ns))) nl)
  have hl : (upd H3 l (.lst (iv (rs0 ns)))) l = some (.lst (iv (rs0 ns))) := upd_same
  have hp4 := e4.tup hp
  refine ⟨_, rfl, l, _, rfl, .inr (SqL.of hl), ?_⟩
  refine ⟨_, rfl, p, _, rfl, .inr (SqT.of hp4), _, rfl, l, _, rfl, .inl (SqL.of hl), _, _, rfl, rfl, _, rfl, by rw [iv_len]; have := rs0_len okl; omega, by omega, ?_⟩
  rw [iv_len]
  refine lc_all (walk_range (lo := 0) (n := ((xs.length : Int) - ((rs0 ns).length : Int)).toNat)) (by omega) (fun _ _ => trivial) (fun _ v (d : Int) => v = .int d) (fun _ _ _ _ _ h => h) (fun _ => lastOr (rs0 ns)) (gm1 _) ?_ ?_
  · rintro i x H4 H5 hi e5 ⟨rfl, rfl⟩ S hS
    have hl5 := e5.lst hl
    refine ⟨rfl, _, rfl, Nat.zero_le _, fun o no => ?_⟩
    have e6 := Ex.new (o := .lst []) no
    have hl6 := e6.lst hl5
    refine ⟨rs0 ns, [], ⟨l, rfl, hl6⟩, ⟨o, rfl, upd_same⟩, _, rfl, ite2 (fun c => ?_) fun c => ?_⟩
    · have hn : rs0 ns ≠ [] := by
        intro z
        rw [z] at c
        cases c
      have hpos : 0 < (rs0 ns).length := List.length_pos_iff.mpr hn
      refine ⟨_, rfl, _, rfl, l, _, _, .int (lastOr (rs0 ns)), rfl, rfl, hl6, atI_m1 ?_, hS _ _ e6 rfl⟩
      rw [iv_len]
      refine at_iv ?_
      unfold lastOr
      rw [if_neg hn, List.getD_eq_getElem?_getD, List.getElem?_eq_getElem (by omega)]
      rfl
    · have hn : rs0 ns = [] := by
        by_cases z : rs0 ns = []
        · exact z
        · exfalso
          apply c
          rw [decide_eq_false z]
          rfl
      refine hS _ _ e6 ?_
      unfold lastOr
      rw [if_pos hn]
  intro D H4 ys nD e5 hD hE
  refine ⟨D, _, rfl, .inr (SqL.of hD), ?_, fun o no => ?_⟩
  · rw [List.length_append, List.length_append, iv_len, hE.1, List.length_map, List.length_range]
    have := rs0_len okl
    exact sz _ (by simp; omega)
  have ey : iv (rs0 ns) ++ (ys ++ []) = iv (rsts ns rs.length) := by
    rw [List.append_nil, each_int hE]
    unfold rsts iv
    rw [show ((xs.length : Int) - ((rs0 ns).length : Int)).toNat = rs.length - (rs0 ns).length by omega, List.map_append]
    congr 2
    refine List.ext_getElem (by simp) fun i h1 h2 => by simp
  rw [ey]
  have e6 := (e4.trans e5).trans (Ex.new (o := .lst (iv (rsts ns rs.length))) no)
  have hp6 := e6.tup hp
  have ho : (upd H4 o (.lst (iv (rsts ns rs.length)))) o = some (.lst (iv (rsts ns rs.length))) := upd_same
  refine ⟨_, rfl, _, rfl, p, o, _, _, rfl, hp6, ho, lc_all (walk_zipm (a := p) (b := o) (xs := xs) (ys := iv (rsts ns rs.length)) rfl) (by omega) (fun H' e => ⟨e.tup hp6, e.lst ho⟩) (fun _ v (d : Int) => v = .int d) (fun _ _ _ _ _ h => h) (fun i => ((rsts ns rs.length).getD i 0 * (rs.getD i default).2).fmod (rs.getD i default).1) (gmT _ _) ?_ ?_⟩
  · rintro i v H5 H7 hi e7 ⟨T2, x, y, rfl, nT, rfl, hx, hy⟩ S hS
    obtain ⟨r, hr, hR⟩ := he.at' hx
    obtain ⟨t, ht, rfl⟩ := iv_at hy
    have e8 : Ex H5 (upd H5 T2 (.tup [x, .int t])) := Ex.new nT
    obtain ⟨a2, rfl, ha2⟩ := IsT.mono ((e6.trans e7).trans e8) hR
    obtain ⟨k1, k2, k3, k4⟩ := c3 r (List.mem_of_getElem? hr)
    refine gpT upd_same ⟨rfl, _, rfl, _, rfl, a2, _, _, _, rfl, rfl, ha2, atI1, _, _, rfl, rfl, .inr ⟨by omega, by omega⟩, _, rfl, a2, _, _, _, rfl, rfl, ha2, atI0, _, _, rfl, rfl, by omega, hS _ _ e8 ?_⟩
    rw [getD_at ht, getD_d hr]
  intro D2 H5 zs nD2 e7 hD2 hE2
  refine ⟨D2, _, rfl, .inl ⟨SqL.of hD2, fun t nt => ?_⟩⟩
  have et : zs = iv (plc rs (rsts ns rs.length)) := by
    rw [each_int hE2, iv_len, hxl]
    rfl
  rw [et]
  have e8 := (e6.trans e7).trans (Ex.new (o := .tup (iv (plc rs (rsts ns rs.length)))) nt)
  obtain ⟨a3, ea3, ha3⟩ := hT.mono e8
  have hp8 := e8.tup hp
  refine ⟨_, rfl, a3, ns, by rw [ea3], ha3, _, rfl, p, _, rfl, .inr (SqT.of hp8), _, _, rfl, rfl, _, rfl, a3, _, by rw [ea3], .inr (SqT.of ha3), _, _, rfl, rfl, _, _, rfl, rfl, _, rfl, by show 2 ≤ sizeLine; decide, fun t2 nt2 => ?_⟩
  refine q _ _ (e8.trans (Ex.new nt2)) ?_
  show (if dist ns > rs.length then V.ref t2 = V.non else IsCl _ (V.ref t2) (ns.sum + rs.length + ns.length - 1) (plc rs (rsts ns rs.length)))
  rw [if_neg hc]
  refine ⟨.ref t, ⟨t2, rfl, ?_⟩, ⟨t, rfl, (Ex.new nt2).tup upd_same⟩⟩
  rw [upd_same, iv_len, hxl]
end K7

set_option Elab.async false
set_option linter.all false
set_option maxRecDepth 100000
set_option maxHeartbeats 4000000
namespace K7
open PySem PySem.Spec PyProof.Rows L2
variable {P : Program} {w : World} {K : PySem.W.Frag} {mg : Str → Option Value} {base : Heap}
/-! places on a chain -/
def inP (rs : List Rg) (ps : List Int) : Bool := decide (ps.length = rs.length) && ((List.range rs.length).map fun i => decide (0 ≤ ps.getD i 0) && decide (ps.getD i 0 ≤ (rs.getD i default).1 - 1)).all id
def sp_is_tuple_in : Sp := fun vs H Q _ => ∃ v u rs, vs = [v, u] ∧ IsC H v rs ∧ okC rs ∧ ((∃ ps, IsT H u (iv ps) ∧ RetV (.bl (inP rs ps)) H Q) ∨ (∃ xs, IsL H u xs ∧ RetV (.bl false) H Q))
theorem sc_is_tuple_in : FnScope ["chain", "value", "ring", "place"] ["chain", "value"] (defScope s_is_tuple_in) := ⟨rfl, rfl, rfl, by decide +kernel, rfl, by decide +kernel, by decide +kernel⟩
theorem h_is_tuple_in (T : Top K mg) (h_is_within : Has P w K mg base "is_within" 2 ["value", "least", "most"] sp_is_within) : Has P w K mg base "is_tuple_in" 3 ["chain", "value"] sp_is_tuple_in := by
  refine has_mk T 6 rfl rfl sc_is_tuple_in (fun _ _ _ _ _ _ us hl => match us, hl with | [_, _], _ => rfl) ?len fun f cdv A outer s H vs Q E hr h => ?main
  case len =>
    rintro vs H Q E ⟨v, u, rs, rfl, _⟩
    rfl
  obtain ⟨v, u, rs, rfl, hC, okc, h⟩ := h
  obtain ⟨xs, ⟨p, rfl, hp⟩, he⟩ := id hC
  have hxl := he.1
  obtain ⟨c1, c2, c3⟩ := okc
  refine ⟨_, (pss_cons (ps_if (PW.pt (pw_or (pt_not (pt_val (pe_callB call_isi (by rfl) T.m_isinstance (by decide +kernel) (pa_cons (pv 1) (pa_cons (pe_bltn (v := .ty "tuple") (by rfl) T.m_tuple (by decide +kernel) rfl) pa_nil))))) (pw_or1 (pt_cmpR op_ne (pe_callB call_len_seq (by rfl) T.m_len PySem.boot_len (pa_cons (pv 1) pa_nil)) (pe_callB call_len_seq (by rfl) T.m_len PySem.boot_len (pa_cons (pv 0) pa_nil)) (nomark _))))) (pss_one (ps_ret pe_bl)) pss_nil) (pss_one (ps_ret (pe_callB (cr_all rfl) (by rfl) T.m_all (by decide +kernel) (pa_cons (pe_lc rfl sc_is_tuple_in.nd (RZ.pi_zipA (by rfl) T.m_zip (pa_cons (pv 0) (pa_cons (pv 1) pa_nil))) (blkOk_by (own := [("ring", 2), ("place", 3)]) (N := ["chain", "value", "ring", "place"]) (sc := (defScope s_is_tuple_in)) (by decide +kernel)) (fun _ _ _ _ _ => (pg_T (n := 2) rfl (pgs_cons (pg_name (i := 2) sc_is_tuple_in.nd rfl (by first | exact Or.inl rfl | exact Or.inr rfl)) (pgs_cons (pg_name (i := 3) sc_is_tuple_in.nd rfl (by first | exact Or.inl rfl | exact Or.inr rfl)) pgs_nil)))) (fun _ _ _ _ _ => pts_nil) (fun _ _ _ _ _ => (pe_has h_is_within (hr.mono (by decide)) (pa_cons (pv 3) (pa_cons pe_int (pa_cons (pe_op op_sub (pe_ix ix_T (pv 2) pe_int (fun _ _ => rfl)) pe_int) pa_nil)))))) pa_nil))))), ?_⟩
  rcases h with ⟨ps, hT, q⟩ | ⟨ys, hT, q⟩
  · have hk : KindV H u (.tup (iv ps)) := hT
    obtain ⟨a, rfl, ha⟩ := id hT
    refine ⟨_, rfl, _, _, _, _, _, rfl, .ty _, hk.tyx, kit_tup _, _, rfl, iteF ?_⟩
    refine ⟨_, rfl, a, _, rfl, .inr (SqT.of ha), _, rfl, p, _, rfl, .inr (SqT.of hp), rfl, _, rfl, ite2 (fun c => ?_) fun c => ?_⟩
    · have hc : ¬ ps.length = rs.length := by
        intro z
        rw [iv_len, hxl, z] at c
        simp at c
      refine q _ _ (Ex.refl _) ?_
      unfold inP
      rw [decide_eq_false hc]
      rfl
    have hc : ps.length = rs.length := by
      rw [iv_len, hxl] at c
      simp at c
      omega
    refine ⟨_, rfl, _, rfl, p, a, xs, iv ps, rfl, .inr ⟨SqT.of hp, SqT.of ha, ?_⟩⟩
    have hm : xs.length = min xs.length (iv ps).length := by
      rw [iv_len]
      omega
    refine lc_all (walk_zipt (K := K) hm) (by omega) (fun H' e => ⟨e.tup hp, e.tup ha⟩) (fun _ v (d : Bool) => v = .bl d) (fun _ _ _ _ _ h => h) (fun i => decide (0 ≤ ps.getD i 0) && decide (ps.getD i 0 ≤ (rs.getD i default).1 - 1)) (gmT _ _) ?_ ?_
    · rintro i v H1 H2 hi e3 ⟨T2, x, y, rfl, nT, rfl, hx, hy⟩ S hS
      obtain ⟨r, hr, hR⟩ := he.at' hx
      obtain ⟨t, ht, rfl⟩ := iv_at hy
      have e4 : Ex H1 (upd H1 T2 (.tup [x, .int t])) := Ex.new nT
      obtain ⟨a2, rfl, ha2⟩ := IsT.mono (e3.trans e4) hR
      refine gpT upd_same ⟨rfl, ?_⟩
      refine ⟨_, rfl, _, rfl, a2, _, _, _, rfl, rfl, ha2, atI0, _, _, rfl, rfl, _, .int t, _, _, rfl, rfl, ?_⟩
      rintro _ H3 e5 rfl
      refine hS _ _ (e4.trans e5) ?_
      rw [getD_at ht, getD_d hr]
      rfl
    · intro D H' zs nD e1 hD hE
      refine ⟨D, _, rfl, SqL.of (show H' D = some (.lst (((List.range xs.length).map fun i => decide (0 ≤ ps.getD i 0) && decide (ps.getD i 0 ≤ (rs.getD i default).1 - 1)).map V.bl)) by rw [hD, each_bl hE]), ?_⟩
      refine q _ _ e1 ?_
      unfold inP
      rw [decide_eq_true hc, hxl]
      rfl
  · have hk : KindV H u (.lst ys) := hT
    refine ⟨_, rfl, _, _, _, _, _, rfl, .ty _, hk.tyx, kit_tup _, _, rfl, iteT ?_⟩
    exact q _ _ (Ex.refl _) rfl
end K7

set_option Elab.async false
set_option linter.all false
set_option maxRecDepth 100000
set_option maxHeartbeats 4000000
namespace K7
open PySem PySem.Spec PyProof.Rows L2
variable {P : Program} {w : World} {K : PySem.W.Frag} {mg : Str → Option Value} {base : Heap}
/-! a def with its code object -/
theorem has_mkC (T : Top K mg) (i : Nat) {x : Str} {st : Stmt} {N ps : List Str} {k : Nat} {sp : Sp} (h : fn[i]? = some (dOf x st)) (g : fa1[i]? = some (.glo x)) (S : FnScope N ps (defScope st))
    (hb : ∀ (kV doc pm : Value) (an : Option Addr) (cdv ct : Value) (us : List Value), us.length = ps.length → bindArgs (PySem.W.fnOf x x (defArgs st) (defBody st) (defScope st) .none kV doc pm an cdv ct) ⟨us, []⟩ = pure (ps.zip us))
    (len : ∀ vs H Q E, sp vs H Q E → vs.length = ps.length)
    (hbody : ∀ (f : Addr) (cdv : Value) (A : Around) (outer : List Env) (s : Shared) (H : Hp) (vs : List V) (Q : VK) (E : XK), cdv = .ref (He.cT K (x, none)).1 → Room k (A.deeper (envOfC x (defScope st) s.heap.objs.size f cdv)) → sp vs H Q E →
      ∃ t, PSs (cxOf CX0 P w K mg base N x (defScope st) f cdv A outer s H E).nox (defBody st) t ∧ t { nx := fun _ H' => Q .non H', rt := Q } (start N vs) H) : Has P w K mg base x (k + 1) ps sp := by
  obtain ⟨fd, F⟩ := T.fns i _ h
  refine ⟨_, fd, T.glo i x g, F.kp, F.bindsN hb, ?_⟩
  obtain ⟨oc, od, dV, kV, doc, pm, an, cdv, ct, osl, rfl, lk, hcd, _, _⟩ := F.ex
  obtain ⟨c, ec⟩ := He.codeIn_ref hcd
  have ec2 : He.codeOf K (x, none) = c := He.codeOf_eq (oc := oc) (od := od) (osl := osl) lk ec
  refine fn_of lk hcd S len fun A outer s H vs Q E hr hs => ?_
  obtain ⟨t, p, q⟩ := hbody _ cdv A outer s H vs Q E (by rw [ec]; show _ = Value.ref (He.codeOf K (x, none)); rw [ec2]) hr hs
  exact ⟨t, p.nox, q⟩
/-- let_rest's code object and its table -/
def cL (K : PySem.W.Frag) : Addr := (He.cT K ("let_rest", none)).1
def tL (K : PySem.W.Frag) : Addr := (He.cT K ("let_rest", none)).2
theorem ex_tab {H H' : Hp} {P : Addr} (h : GxR.TabG H P) (t : GxR.Tabbed P H H') : Ex H H' := fun a o ha => by
  obtain ⟨⟨ps', e1, t1⟩, e2⟩ := t
  obtain ⟨ps, e3, _⟩ := h
  by_cases hp : a = P
  · rw [hp, e3] at ha
    cases ha
    exact ⟨fun n => absurd rfl (n ps), fun qs e => ⟨ps', by rw [hp, e1], fun _ => t1⟩⟩
  · have e4 : H' a = some o := by rw [e2 a hp, ha]
    exact ⟨fun _ => e4, fun qs e => ⟨qs, by rw [e4, e], id⟩⟩
def lrest (r : Rg) (x : Int) (k : Int) : V := firstOf k.toNat fun i => decide (((i : Int) * r.2 - x).fmod r.1 = 0)
def sp_let_rest (K : PySem.W.Frag) : Sp := fun vs H Q _ => ∃ v r x k, vs = [v, .int x, .int k] ∧ IsR H v r ∧ okR r ∧ 0 ≤ k ∧ k ≤ 1000 ∧ GxR.TabG H (tL K) ∧ Ret (fun z _ => z = lrest r x k) H Q
theorem sc_let_rest : FnScope ["ring", "place", "order", "rest"] ["ring", "place", "order"] (defScope s_let_rest) := ⟨rfl, rfl, rfl, by decide +kernel, rfl, by decide +kernel, by decide +kernel⟩
theorem h_let_rest (T : Top K mg) (TB : GxR.TabB base mg (cL K) (tL K)) : Has P w K mg base "let_rest" 4 ["ring", "place", "order"] (sp_let_rest K) := by
  refine has_mkC T 16 rfl rfl sc_let_rest (fun _ _ _ _ _ _ us hl => match us, hl with | [_, _, _], _ => rfl) ?len fun f cdv A outer s H vs Q E ec hr h => ?main
  case len =>
    rintro vs H Q E ⟨v, r, x, k, rfl, _⟩
    rfl
  obtain ⟨v, r, x, k, rfl, ⟨p, rfl, hp⟩, ⟨o1, o2, o3, o4⟩, k0, k1, hT, q⟩ := h
  refine ⟨_, (pss_one (ps_ret (pe_nextR (xi := 0) (yi := 1) (sc := defScope s_let_rest) hr (by rfl) T.m_next TB (by exact ec) rfl rfl rfl (by decide +kernel) rfl rfl (by decide +kernel) (by rfl) T.m_range (pa_cons (pv 2) pa_nil) rfl rfl (by decide +kernel) (by decide +kernel) rfl rfl rfl rfl (by decide) (by decide) (by decide) (by decide) (by decide) rfl (fun _ => rfl) (fun e he => by subst he; exact ⟨rfl, rfl⟩)))), ?_⟩
  refine ⟨r.1, r.2, x, p, rfl, rfl, by omega, ⟨by omega, by omega⟩, _, rfl, k, rfl, k0, k1, hT, ⟨hp, hT⟩, fun H2 hT2 => ?_⟩
  refine q _ _ ?_ rfl
  exact ex_tab hT hT2
end K7

set_option Elab.async false
set_option linter.all false
set_option maxRecDepth 100000
set_option maxHeartbeats 4000000
namespace K7
open PySem PySem.Spec PyProof.Rows L2
variable {P : Program} {w : World} {K : PySem.W.Frag} {mg : Str → Option Value} {base : Heap}
/-! in order -/
def ins (x : Int) : List Int → List Int
  | [] => [x]
  | y :: r => if x ≤ y then x :: y :: r else y :: ins x r
def isort : List Int → List Int
  | [] => []
  | x :: r => ins x (isort r)
theorem ins_perm (x : Int) : ∀ l : List Int, (ins x l).Perm (x :: l)
  | [] => .refl _
  | y :: r => by
    unfold ins
    split
    · exact .refl _
    · exact ((ins_perm x r).cons y).trans (.swap x y r)
theorem isort_perm : ∀ l : List Int, (isort l).Perm l
  | [] => .refl _
  | x :: r => (ins_perm x _).trans ((isort_perm r).cons x)
theorem ins_ord (x : Int) : ∀ l : List Int, l.Pairwise (· ≤ ·) → (ins x l).Pairwise (· ≤ ·)
  | [], _ => by unfold ins; exact List.pairwise_singleton _ _
  | y :: r, h => by
    unfold ins
    obtain ⟨h1, h2⟩ := List.pairwise_cons.mp h
    split
    · rename_i hx
      refine List.pairwise_cons.mpr ⟨fun z hz => ?_, h⟩
      rcases List.mem_cons.mp hz with rfl | hz
      · exact hx
      · exact Int.le_trans hx (h1 z hz)
    · rename_i hx
      refine List.pairwise_cons.mpr ⟨fun z hz => ?_, ins_ord x r h2⟩
      rcases List.mem_cons.mp ((ins_perm x r).mem_iff.mp hz) with rfl | hz
      · omega
      · exact h1 z hz
theorem isort_ord : ∀ l : List Int, (isort l).Pairwise (· ≤ ·)
  | [] => .nil
  | x :: r => ins_ord x _ (isort_ord r)
theorem sort_is {l m : List Int} (h : m.Perm l) (o : m.Pairwise (· ≤ ·)) : m = isort l :=
  List.Perm.eq_of_pairwise (le := (· ≤ ·)) (fun a b _ _ h1 h2 => Int.le_antisymm h1 h2) o (isort_ord l) (h.trans (isort_perm l).symm)
/-! the levels of a class -/
/-- the letter of a ring with a place -/
def lrN (r : Rg) (x : Int) (k : Nat) : Option Nat := ((List.range k).filter fun (i : Nat) => decide (((i : Int) * r.2 - x).fmod r.1 = 0))[0]?
theorem lrest_some {r : Rg} {x : Int} {k i : Nat} (h : lrN r x k = some i) : lrest r x (k : Nat) = .int (i : Nat) := by
  unfold lrest firstOf
  unfold lrN at h
  rw [Int.toNat_natCast, h]
theorem lrest_none {r : Rg} {x : Int} {k : Nat} (h : lrN r x k = none) : lrest r x (k : Nat) = .non := by
  unfold lrest firstOf
  unfold lrN at h
  rw [Int.toNat_natCast, h]
theorem lrN_lt {r : Rg} {x : Int} {k i : Nat} (h : lrN r x k = some i) : i < k := by
  have := List.mem_of_getElem? h
  rw [List.mem_filter, List.mem_range] at this
  exact this.1
def lstep (k : Nat) (vals : List Int) (q : Rg × Int) : List Int := match lrN q.1 (-q.2) k with
  | some i => if falls vals i then vals else lb vals i
  | none => vals
def vals0 (k : Nat) (d n : Int) : List Int := (List.range k).map fun (i : Nat) => (i : Int) + d - n
def valsOf (rs : List Rg) (ps : List Int) (d : Int) (k : Nat) : List Int := (rs.zip ps).reverse.foldl (lstep k) (vals0 k d rs.length)
def levsOf (vals : List Int) (k : Nat) : List Int := isort ((List.range k).map fun (i : Nat) => (vir vals (1 - (k : Int) + (i : Int))).fdiv (k : Int))
def levs (rs : List Rg) (ps : List Int) (d : Int) (k : Nat) : List Int := levsOf (valsOf rs ps d k) k
theorem lb_len (ns : List Int) (c : Int) : (lb ns c).length = ns.length := by
  unfold lb
  split <;> simp
theorem lstep_len (k : Nat) (vals : List Int) (q : Rg × Int) : (lstep k vals q).length = vals.length := by
  unfold lstep
  split
  · split
    · rfl
    · exact lb_len _ _
  · rfl
theorem vals_len (k : Nat) : ∀ (l : List (Rg × Int)) (vals : List Int), (l.foldl (lstep k) vals).length = vals.length
  | [], _ => rfl
  | q :: r, vals => by rw [List.foldl_cons, vals_len k r, lstep_len]
def sp_levels_in (K : PySem.W.Frag) : Sp := fun vs H Q _ => ∃ v u rs ps d k, vs = [v, .int d, u] ∧ IsC H v rs ∧ okC rs ∧ (∀ r ∈ rs, ordR r = (k : Nat)) ∧ 2 ≤ k ∧ k ≤ 60 ∧ IsT H u (iv ps) ∧ ps.length = rs.length ∧ GxR.TabG H (tL K) ∧
  Ret (fun z H' => IsT H' z (iv (levs rs ps d k))) H Q
theorem sc_levels_in : FnScope ["chain", "degree", "places", "order", "values", "index", "ring", "place", "rest"] ["chain", "degree", "places"] (defScope s_levels_in) := ⟨rfl, rfl, rfl, by decide +kernel, rfl, by decide +kernel, by decide +kernel⟩
theorem h_levels_in (T : Top K mg) (h_order_in : Has P w K mg base "order_in" 1 ["ring"] sp_order_in) (h_let_rest : Has P w K mg base "let_rest" 4 ["ring", "place", "order"] (sp_let_rest K)) (h_does_fall : Has P w K mg base "does_fall" 2 ["values", "place"] sp_does_fall) (h_letter_behind : Has P w K mg base "letter_behind" 1 ["values", "place"] sp_letter_behind) (h_value_in_round : Has P w K mg base "value_in_round" 1 ["values", "i"] sp_value_in_round) : Has P w K mg base "levels_in" 5 ["chain", "degree", "places"] (sp_levels_in K) := by
  refine has_mk T 17 rfl rfl sc_levels_in (fun _ _ _ _ _ _ us hl => match us, hl with | [_, _, _], _ => rfl) ?len fun f cdv A outer s H vs Q E hr h => ?main
  case len =>
    rintro vs H Q E ⟨v, u, rs, ps, d, k, rfl, _⟩
    rfl
  obtain ⟨v, u, rs, ps, d, k, rfl, hC, okc, hk, k2, k60, hU, hpl, hT, q⟩ := h
  obtain ⟨xs, ⟨p, rfl, hp⟩, he⟩ := id hC
  obtain ⟨pp, rfl, hpp⟩ := id hU
  have hxl := he.1
  obtain ⟨c1, c2, c3⟩ := okc
  refine ⟨_, (pss_cons (ps_set (i := 3) sc_levels_in.nd rfl (by first | exact Or.inl rfl | exact Or.inr rfl) (pe_has h_order_in (hr.mono (by decide)) (pa_cons (pe_ix ix_tup (pv 0) pe_int (fun _ _ => rfl)) pa_nil))) (pss_cons (ps_set (i := 4) sc_levels_in.nd rfl (by first | exact Or.inl rfl | exact Or.inr rfl) (pe_callTy call_tuple_of (by rfl) T.m_tuple (by decide +kernel) (pa_cons (pe_lc rfl sc_levels_in.nd (pi_range1 (by rfl) T.m_range (pa_cons (pv 3) pa_nil)) (blkOk_by (own := [("index", 5)]) (N := ["chain", "degree", "places", "order", "values", "index", "ring", "place", "rest"]) (sc := (defScope s_levels_in)) (by decide +kernel)) (fun _ _ _ _ _ => (pg_name (i := 5) sc_levels_in.nd rfl (by first | exact Or.inl rfl | exact Or.inr rfl))) (fun _ _ _ _ _ => pts_nil) (fun _ _ _ _ _ => (pe_op op_sub (pe_op op_add (pv 5) (pv 1)) (pe_callB cr_len (by rfl) T.m_len PySem.boot_len (pa_cons (pv 0) pa_nil))))) pa_nil))) (pss_cons (ps_for PassesOwn.never rfl (pi_list (pe_revL (pe_listZip rfl (by rfl) T.m_list (by rfl) T.m_zip (pa_cons (pv 0) (pa_cons (pv 2) pa_nil))))) (pg_tup rfl (pgs_cons (pg_name (i := 6) sc_levels_in.nd rfl (by first | exact Or.inl rfl | exact Or.inr rfl)) (pgs_cons (pg_name (i := 7) sc_levels_in.nd rfl (by first | exact Or.inl rfl | exact Or.inr rfl)) pgs_nil))) (pss_cons (ps_set (i := 8) sc_levels_in.nd rfl (by first | exact Or.inl rfl | exact Or.inr rfl) (pe_has h_let_rest (hr.mono (by decide)) (pa_cons (pv 6) (pa_cons (pe_un un_neg (pv 7)) (pa_cons (pv 3) pa_nil))))) (pss_one (ps_if (PW.pt (pw_and (pt_cmpR op_notN (pv 8) pe_non (nomark _)) (pw_and1 (pt_not (pt_val (pe_has h_does_fall (hr.mono (by decide)) (pa_cons (pv 4) (pa_cons (pv 8) pa_nil)))))))) (pss_one (ps_set (i := 4) sc_levels_in.nd rfl (by first | exact Or.inl rfl | exact Or.inr rfl) (pe_has h_letter_behind (hr.mono (by decide)) (pa_cons (pv 4) (pa_cons (pv 8) pa_nil))))) pss_nil)))) (pss_one (ps_ret (pe_callTy call_tuple_of (by rfl) T.m_tuple (by decide +kernel) (pa_cons (pe_callB cr_sortedI (by rfl) T.m_sorted (by decide +kernel) (pa_cons (pe_lc rfl sc_levels_in.nd (pi_range2 (by rfl) T.m_range (pa_cons (pe_op op_sub pe_int (pv 3)) (pa_cons pe_int pa_nil))) (blkOk_by (own := [("index", 5)]) (N := ["chain", "degree", "places", "order", "values", "index", "ring", "place", "rest"]) (sc := (defScope s_levels_in)) (by decide +kernel)) (fun _ _ _ _ _ => (pg_name (i := 5) sc_levels_in.nd rfl (by first | exact Or.inl rfl | exact Or.inr rfl))) (fun _ _ _ _ _ => pts_nil) (fun _ _ _ _ _ => (pe_op op_fdivN (pe_has h_value_in_round (hr.mono (by decide)) (pa_cons (pv 4) (pa_cons (pv 5) pa_nil))) (pv 3)))) pa_nil)) pa_nil))))))), ?_⟩
  obtain ⟨r, hr0⟩ : ∃ r, rs[0]? = some r := ⟨rs[0], List.getElem?_eq_getElem (by omega)⟩
  obtain ⟨x, hx, hR⟩ := he.at hr0
  refine ⟨_, rfl, p, _, _, x, rfl, rfl, SqT.of hp, atI_nat (j := 0) hx, _, r, rfl, hR, c3 r (List.mem_of_getElem? hr0), ?_⟩
  rintro _ H1 e1 rfl
  rw [hk r (List.mem_of_getElem? hr0)]
  have hp1 := e1.tup hp
  refine ⟨_, rfl, _, rfl, by omega, by omega, ?_⟩
  rw [Int.toNat_natCast]
  refine lc_all (walk_range (lo := 0) (n := k)) (by omega) (fun _ _ => trivial) (fun _ v (d : Int) => v = .int d) (fun _ _ _ _ _ h => h) (fun (i : Nat) => (i : Int) + d - rs.length) (gm1 _) ?_ ?_
  · rintro i x H4 H5 hi e5 ⟨rfl, rfl⟩ S hS
    refine ⟨rfl, _, rfl, _, rfl, _, _, rfl, rfl, _, rfl, p, xs, rfl, .inr (e5.tup hp1), _, _, rfl, rfl, hS _ _ (Ex.refl _) ?_⟩
    rw [hxl, Int.zero_add]
  intro D H2 ys nD e2 hD hE
  have ey : ys = iv (vals0 k d rs.length) := each_int hE
  rw [ey] at hD
  refine ⟨D, _, rfl, .inl ⟨SqL.of hD, fun t nt => ?_⟩⟩
  have e3 := (e1.trans e2).trans (Ex.new (o := .tup (iv (vals0 k d rs.length))) nt)
  refine ⟨_, rfl, _, rfl, p, pp, xs, iv ps, rfl, e3.tup hp, e3.tup hpp, by rw [iv_len, hxl, hpl], by omega, fun S H3 e4 nS ⟨ts, hts, hE2⟩ => ⟨S, ts, rfl, SqL.of hts, fun S2 nS2 => ?_⟩⟩
  have hv3 := e4.tup (upd_same (H := H2) (a := t) (o := .tup (iv (vals0 k d rs.length))))
  have e5 := (e3.trans e4).trans (Ex.new (o := .lst ts.reverse) nS2)
  have hS2 : (upd H3 S2 (.lst ts.reverse)) S2 = some (.lst ts.reverse) := upd_same
  have hv5 := (Ex.new (o := .lst ts.reverse) nS2).tup hv3
  have tl : ts.length = rs.length := by rw [hE2.1, List.length_zip, iv_len, hxl, hpl, Nat.min_self]
  have zl : (rs.zip ps).reverse.length = rs.length := by rw [List.length_reverse, List.length_zip, hpl, Nat.min_self]
  refine ⟨S2, rfl, ⟨_, SqL.of hS2⟩, for_it (walk_list (a := S2) (xs := ts.reverse)) (fun i σ H' => ∃ b1 b2 b3 b4 t2, σ = [some (.ref p), some (.int d), some (.ref pp), some (.int (k : Nat)), some (.ref t2), b1, b2, b3, b4] ∧ Ex (upd H3 S2 (.lst ts.reverse)) H' ∧
    H' t2 = some (.tup (iv (((rs.zip ps).reverse.take i).foldl (lstep k) (vals0 k d rs.length))))) ⟨none, none, none, none, t, rfl, Ex.refl _, hv5⟩ (fun i σ H' hi ⟨_, _, _, _, _, _, e, _⟩ => SqL.of (e.lst hS2)) ?_ ?_⟩
  · rintro i x σ H4 H5 hi ⟨b1, b2, b3, b4, t2, rfl, e6, ht2⟩ ⟨rfl, hx⟩
    have hi' : i < ts.length := by rw [← List.length_reverse]; exact hi
    rw [List.getElem?_reverse hi'] at hx
    obtain ⟨d2, hd2, hT2⟩ := hE2.at' hx
    obtain ⟨z1, z2⟩ := zip_get hd2
    obtain ⟨pl, hpl1, hpl2⟩ := iv_at z2
    obtain ⟨r2, hr2, hR2⟩ := he.at' z1
    have hq : (rs.zip ps).reverse[i]? = some (r2, pl) := by
      rw [List.getElem?_reverse (by rw [List.length_reverse] at zl; omega), List.getElem?_zip_eq_some]
      rw [List.length_reverse] at zl
      rw [zl, ← tl]
      exact ⟨hr2, hpl1⟩
    have estep : ((rs.zip ps).reverse.take (i + 1)).foldl (lstep k) (vals0 k d rs.length) = lstep k (((rs.zip ps).reverse.take i).foldl (lstep k) (vals0 k d rs.length)) (r2, pl) := by
      rw [List.take_succ, hq, List.foldl_append]
      rfl
    rw [estep]
    have hvl : (((rs.zip ps).reverse.take i).foldl (lstep k) (vals0 k d rs.length)).length = k := by
      rw [vals_len]
      unfold vals0
      rw [List.length_map, List.length_range]
    generalize ((rs.zip ps).reverse.take i).foldl (lstep k) (vals0 k d rs.length) = vl at ht2 hvl ⊢
    have e7 := e5.trans e6
    obtain ⟨aT, rfl, haT⟩ := hT2.mono (Ex.trans (Ex.new (o := .lst ts.reverse) nS2) e6)
    obtain ⟨d2a, d2b⟩ := d2
    have hpl2 : d2b = .int pl := hpl2
    subst hpl2
    refine ⟨aT, _, rfl, SqT.of haT, rfl, _, _, rfl, _, _, rfl, rfl, ?_⟩
    refine ⟨_, rfl, _, rfl, _, rfl, _, rfl, _, r2, -pl, (k : Nat), rfl, hR2.mono e7, c3 r2 (List.mem_of_getElem? hr2), by omega, by omega, e7.tab hT, ?_⟩
    rintro _ H6 e8 rfl
    have ht6 := e8.tup ht2
    cases hl : lrN r2 (-pl) k with
    | none =>
      rw [lrest_none hl]
      have es : lstep k vl (r2, pl) = vl := by
        unfold lstep
        rw [show lrN (r2, pl).1 (-(r2, pl).2) k = none from hl]
      rw [es]
      exact ⟨_, rfl, rfl, _, rfl, iteF (iteF ⟨_, _, _, _, t2, rfl, e6.trans e8, ht6⟩)⟩
    | some j =>
      rw [lrest_some hl]
      have hj := lrN_lt hl
      have es : lstep k vl (r2, pl) = if falls vl (j : Nat) then vl else lb vl (j : Nat) := by
        unfold lstep
        rw [show lrN (r2, pl).1 (-(r2, pl).2) k = some j from hl]
      rw [es]
      refine ⟨_, rfl, rfl, _, rfl, iteT ?_⟩
      refine ⟨_, rfl, _, rfl, _, vl, (j : Nat), rfl, ⟨t2, rfl, ht6⟩, by omega, by omega, ?_⟩
      rintro _ H7 e9 rfl
      have ht7 := e9.tup ht6
      cases hf : falls vl (j : Nat) with
      | true =>
        exact ⟨_, rfl, iteF ⟨_, _, _, _, t2, rfl, (e6.trans e8).trans e9, ht7⟩⟩
      | false =>
        refine ⟨_, rfl, iteT ?_⟩
        refine ⟨_, rfl, _, rfl, _, vl, (j : Nat), rfl, ⟨t2, rfl, ht7⟩, by omega, by omega, by omega, by omega, ?_⟩
        rintro _ H8 e10 ⟨t3, rfl, ht3⟩
        exact ⟨_, _, _, _, t3, rfl, ((e6.trans e8).trans e9).trans e10, ht3⟩
  · rintro σ H4 ⟨b1, b2, b3, b4, t2, rfl, e6, ht2⟩
    rw [List.take_of_length_le (by rw [zl, List.length_reverse, tl]; exact Nat.le_refl _)] at ht2
    have hvl : ((rs.zip ps).reverse.foldl (lstep k) (vals0 k d rs.length)).length = k := by
      rw [vals_len]
      unfold vals0
      rw [List.length_map, List.length_range]
    have e7 := e5.trans e6
    refine ⟨_, rfl, _, _, rfl, rfl, _, _, rfl, ⟨by omega, by omega, by decide, by decide⟩, ?_⟩
    rw [show ((1 : Int) - (1 - (k : Int))).toNat = k by omega]
    refine lc_all (walk_range (lo := 1 - (k : Int)) (n := k)) (by omega) (fun _ _ => trivial) (fun _ v (d : Int) => v = .int d) (fun _ _ _ _ _ h => h) (fun (i : Nat) => (vir (valsOf rs ps d k) (1 - (k : Int) + (i : Int))).fdiv (k : Int)) (gm1 _) ?_ ?_
    · rintro i x H5 H6 hi e8 ⟨rfl, rfl⟩ S' hS'
      refine ⟨rfl, _, rfl, _, rfl, _, _, _, rfl, ⟨t2, rfl, e8.tup ht2⟩, by omega, ?_⟩
      rintro _ H7 e9 rfl
      exact ⟨_, rfl, _, _, rfl, rfl, ⟨by omega, by omega⟩, hS' _ _ e9 rfl⟩
    intro D2 H5 zs nD2 e8 hD2 hE3
    have ez : zs = iv ((List.range k).map fun (i : Nat) => (vir (valsOf rs ps d k) (1 - (k : Int) + (i : Int))).fdiv (k : Int)) := each_int hE3
    rw [ez] at hD2
    refine ⟨D2, _, rfl, SqL.of hD2, fun ns' p' hperm hord np' => ?_⟩
    have ens := sort_is hperm hord
    have e9 := e8.trans (Ex.new (o := .lst (iv ns')) np')
    refine ⟨p', _, rfl, .inl ⟨SqL.of upd_same, fun t3 nt3 => ?_⟩⟩
    refine q _ _ ((e7.trans e9).trans (Ex.new nt3)) ⟨t3, rfl, ?_⟩
    rw [upd_same, ens]
    rfl
end K7

set_option Elab.async false
set_option linter.all false
set_option maxRecDepth 100000
set_option maxHeartbeats 4000000
namespace K7
open PySem PySem.Spec PyProof.Rows L2
variable {P : Program} {w : World} {K : PySem.W.Frag} {mg : Str → Option Value} {base : Heap}
def sp_require_levels : Sp := fun vs H Q _ => ∃ v ns, vs = [v] ∧ IsT H v (iv ns) ∧ okL ns ∧ RetV .non H Q
theorem sc_require_levels : FnScope ["levels"] ["levels"] (defScope s_require_levels) := ⟨rfl, rfl, rfl, by decide +kernel, rfl, by decide +kernel, by decide +kernel⟩
theorem h_require_levels (T : Top K mg) (h_is_levels_in : Has P w K mg base "is_levels_in" 3 ["value"] sp_is_levels_in) : Has P w K mg base "require_levels" 4 ["levels"] sp_require_levels := by
  refine has_mk T 24 rfl rfl sc_require_levels (fun _ _ _ _ _ _ us hl => match us, hl with | [_], _ => rfl) ?len fun f cdv A outer s H vs Q E hr h => ?main
  case len =>
    rintro vs H Q E ⟨v, ns, rfl, _⟩
    rfl
  obtain ⟨v, ns, rfl, hT, ok, q⟩ := h
  refine ⟨_, (pss_one (ps_if (pt_not (pt_val (pe_has h_is_levels_in (hr.mono (by decide)) (pa_cons (pv 0) pa_nil)))) (pss_one ps_never) pss_nil)), ?_⟩
  refine ⟨_, rfl, _, ns, rfl, hT, ok, ?_⟩
  rintro _ H1 e1 rfl
  exact ⟨_, rfl, iteF (q _ _ e1 rfl)⟩
def sp_require_even_chain : Sp := fun vs H Q _ => ∃ v rs k, vs = [v] ∧ IsC H v rs ∧ okC rs ∧ (∀ r ∈ rs, ordR r = k) ∧ RetV .non H Q
theorem sc_require_even_chain : FnScope ["chain"] ["chain"] (defScope s_require_even_chain) := ⟨rfl, rfl, rfl, by decide +kernel, rfl, by decide +kernel, by decide +kernel⟩
theorem h_require_even_chain (T : Top K mg) (h_common_order : Has P w K mg base "common_order" 5 ["value"] sp_common_order) : Has P w K mg base "require_even_chain" 6 ["chain"] sp_require_even_chain := by
  refine has_mk T 25 rfl rfl sc_require_even_chain (fun _ _ _ _ _ _ us hl => match us, hl with | [_], _ => rfl) ?len fun f cdv A outer s H vs Q E hr h => ?main
  case len =>
    rintro vs H Q E ⟨v, rs, k, rfl, _⟩
    rfl
  obtain ⟨v, rs, k, rfl, hC, ok, hk, q⟩ := h
  refine ⟨_, (pss_one (ps_if (pt_cmpR op_isN (pe_has h_common_order (hr.mono (by decide)) (pa_cons (pv 0) pa_nil)) pe_non (nomark _)) (pss_one ps_never) pss_nil)), ?_⟩
  refine ⟨_, rfl, _, rs, k, rfl, hC, ok, hk, ?_⟩
  rintro _ H1 e1 rfl
  exact ⟨rfl, _, rfl, iteF (q _ _ e1 rfl)⟩
def sp_require_levels_of : Sp := fun vs H Q _ => ∃ v u rs ns, vs = [v, u] ∧ IsC H v rs ∧ okC rs ∧ IsT H u (iv ns) ∧ okL ns ∧ (∀ r ∈ rs, ordR r = ns.length) ∧ RetV .non H Q
theorem sc_require_levels_of : FnScope ["chain", "levels"] ["chain", "levels"] (defScope s_require_levels_of) := ⟨rfl, rfl, rfl, by decide +kernel, rfl, by decide +kernel, by decide +kernel⟩
theorem h_require_levels_of (T : Top K mg) (h_require_even_chain : Has P w K mg base "require_even_chain" 6 ["chain"] sp_require_even_chain) (h_require_levels : Has P w K mg base "require_levels" 4 ["levels"] sp_require_levels) (h_order_in : Has P w K mg base "order_in" 1 ["ring"] sp_order_in) : Has P w K mg base "require_levels_of" 7 ["chain", "levels"] sp_require_levels_of := by
  refine has_mk T 26 rfl rfl sc_require_levels_of (fun _ _ _ _ _ _ us hl => match us, hl with | [_, _], _ => rfl) ?len fun f cdv A outer s H vs Q E hr h => ?main
  case len =>
    rintro vs H Q E ⟨v, u, rs, ns, rfl, _⟩
    rfl
  obtain ⟨v, u, rs, ns, rfl, hC, ok, hU, okl, hk, q⟩ := h
  refine ⟨_, (pss_cons (ps_expr (pe_has h_require_even_chain (hr.mono (by decide)) (pa_cons (pv 0) pa_nil))) (pss_cons (ps_expr (pe_has h_require_levels (hr.mono (by decide)) (pa_cons (pv 1) pa_nil))) (pss_one (ps_if (pt_cmpR op_ne (pe_callB call_len_seq (by rfl) T.m_len PySem.boot_len (pa_cons (pv 1) pa_nil)) (pe_has h_order_in (hr.mono (by decide)) (pa_cons (pe_ix ix_tup (pv 0) pe_int (fun _ _ => rfl)) pa_nil)) (nomark _)) (pss_one ps_never) pss_nil)))), ?_⟩
  refine ⟨_, rfl, _, rs, _, rfl, hC, ok, hk, ?_⟩
  rintro _ H1 e1 rfl
  refine ⟨_, rfl, _, ns, rfl, hU.mono e1, okl, ?_⟩
  rintro _ H2 e2 rfl
  obtain ⟨a, rfl, ha⟩ := hU.mono (e1.trans e2)
  obtain ⟨xs, ⟨p, rfl, hp⟩, he⟩ := hC.mono (e1.trans e2)
  have := ok.1
  obtain ⟨r, hr0⟩ : ∃ r, rs[0]? = some r := ⟨rs[0], List.getElem?_eq_getElem (by omega)⟩
  obtain ⟨x, hx, hR⟩ := he.at hr0
  refine ⟨_, rfl, a, _, rfl, .inr (SqT.of ha), _, rfl, p, _, _, x, rfl, rfl, SqT.of hp, atI_nat (j := 0) hx, _, r, rfl, hR, ok.2.2 r (List.mem_of_getElem? hr0), ?_⟩
  rintro _ H3 e3 rfl
  rw [hk r (List.mem_of_getElem? hr0), iv_len]
  refine ⟨rfl, _, rfl, ?_⟩
  rw [show decide (V.int (ns.length : Nat) = V.int (ns.length : Nat)) = true from decide_eq_true rfl]
  exact iteF (q _ _ ((e1.trans e2).trans e3) rfl)
def sp_distance : Sp := fun vs H Q _ => ∃ v ns, vs = [v] ∧ IsT H v (iv ns) ∧ okL ns ∧ RetV (.int (dist ns)) H Q
theorem sc_distance : FnScope ["levels"] ["levels"] (defScope s_distance) := ⟨rfl, rfl, rfl, by decide +kernel, rfl, by decide +kernel, by decide +kernel⟩
theorem h_distance (T : Top K mg) (h_require_levels : Has P w K mg base "require_levels" 4 ["levels"] sp_require_levels) (h_distance_in : Has P w K mg base "distance_in" 1 ["levels"] sp_distance_in) : Has P w K mg base "distance" 5 ["levels"] sp_distance := by
  refine has_mk T 27 rfl rfl sc_distance (fun _ _ _ _ _ _ us hl => match us, hl with | [_], _ => rfl) ?len fun f cdv A outer s H vs Q E hr h => ?main
  case len =>
    rintro vs H Q E ⟨v, ns, rfl, _⟩
    rfl
  obtain ⟨v, ns, rfl, hT, ok, q⟩ := h
  refine ⟨_, (pss_cons (ps_expr (pe_has h_require_levels (hr.mono (by decide)) (pa_cons (pv 0) pa_nil))) (pss_one (ps_ret (pe_has h_distance_in (hr.mono (by decide)) (pa_cons (pv 0) pa_nil))))), ?_⟩
  refine ⟨_, rfl, _, ns, rfl, hT, ok, ?_⟩
  rintro _ H1 e1 rfl
  refine ⟨_, rfl, _, ns, rfl, hT.mono e1, by have := ok.2.1; omega, ?_⟩
  rintro _ H2 e2 rfl
  exact q _ _ (e1.trans e2) rfl
def sp_can_be_met : Sp := fun vs H Q _ => ∃ (g : Int) (v : V) (ns : List Int), vs = [.int g, v] ∧ 1 ≤ g ∧ g ≤ 12 ∧ IsT H v (iv ns) ∧ okL ns ∧ RetV (.bl (decide (dist ns ≤ g))) H Q
theorem sc_can_be_met : FnScope ["rings", "levels"] ["rings", "levels"] (defScope s_can_be_met) := ⟨rfl, rfl, rfl, by decide +kernel, rfl, by decide +kernel, by decide +kernel⟩
theorem h_can_be_met (T : Top K mg) (h_is_within : Has P w K mg base "is_within" 2 ["value", "least", "most"] sp_is_within) (h_require_levels : Has P w K mg base "require_levels" 4 ["levels"] sp_require_levels) (h_distance_in : Has P w K mg base "distance_in" 1 ["levels"] sp_distance_in) : Has P w K mg base "can_be_met" 5 ["rings", "levels"] sp_can_be_met := by
  refine has_mk T 28 rfl rfl sc_can_be_met (fun _ _ _ _ _ _ us hl => match us, hl with | [_, _], _ => rfl) ?len fun f cdv A outer s H vs Q E hr h => ?main
  case len =>
    rintro vs H Q E ⟨g, v, ns, rfl, _⟩
    rfl
  obtain ⟨g, v, ns, rfl, g1, g2, hT, ok, q⟩ := h
  refine ⟨_, (pss_cons (ps_if (pt_not (pt_val (pe_has h_is_within (hr.mono (by decide)) (pa_cons (pv 0) (pa_cons pe_int (pa_cons (pe_gi T.k_MOST_RINGS) pa_nil)))))) (pss_one ps_never) pss_nil) (pss_cons (ps_expr (pe_has h_require_levels (hr.mono (by decide)) (pa_cons (pv 1) pa_nil))) (pss_one (ps_ret (pe_cmpR op_le (pe_has h_distance_in (hr.mono (by decide)) (pa_cons (pv 1) pa_nil)) (pv 0) (nomark _)))))), ?_⟩
  refine ⟨_, rfl, _, .int g, _, _, rfl, rfl, ?_⟩
  rintro _ H1 e1 rfl
  have c1 : ((Kind.int g).isInt && (decide (1 ≤ (Kind.int g).num) && decide ((Kind.int g).num ≤ 12))) = true := by
    show (true && (decide (1 ≤ g) && decide (g ≤ 12))) = true
    rw [decide_eq_true g1, decide_eq_true g2]
    rfl
  rw [c1]
  refine ⟨_, rfl, iteF ?_⟩
  refine ⟨_, rfl, _, ns, rfl, hT.mono e1, ok, ?_⟩
  rintro _ H2 e2 rfl
  refine ⟨_, rfl, _, ns, rfl, hT.mono (e1.trans e2), by have := ok.2.1; omega, ?_⟩
  rintro _ H3 e3 rfl
  exact ⟨_, rfl, _, _, rfl, rfl, q _ _ ((e1.trans e2).trans e3) rfl⟩
def sp_class_with_levels : Sp := fun vs H Q _ => ∃ v u rs ns, vs = [v, u] ∧ IsC H v rs ∧ okC rs ∧ IsT H u (iv ns) ∧ okL ns ∧ (∀ r ∈ rs, ordR r = ns.length) ∧
  Ret (fun z H' => if dist ns > rs.length then z = .non else IsCl H' z (ns.sum + rs.length + ns.length - 1) (plc rs (rsts ns rs.length))) H Q
theorem sc_class_with_levels : FnScope ["chain", "levels"] ["chain", "levels"] (defScope s_class_with_levels) := ⟨rfl, rfl, rfl, by decide +kernel, rfl, by decide +kernel, by decide +kernel⟩
theorem h_class_with_levels (T : Top K mg) (h_require_levels_of : Has P w K mg base "require_levels_of" 7 ["chain", "levels"] sp_require_levels_of) (h_class_in_levels : Has P w K mg base "class_in_levels" 3 ["chain", "levels"] sp_class_in_levels) : Has P w K mg base "class_with_levels" 8 ["chain", "levels"] sp_class_with_levels := by
  refine has_mk T 29 rfl rfl sc_class_with_levels (fun _ _ _ _ _ _ us hl => match us, hl with | [_, _], _ => rfl) ?len fun f cdv A outer s H vs Q E hr h => ?main
  case len =>
    rintro vs H Q E ⟨v, u, rs, ns, rfl, _⟩
    rfl
  obtain ⟨v, u, rs, ns, rfl, hC, ok, hU, okl, hk, q⟩ := h
  refine ⟨_, (pss_cons (ps_expr (pe_has h_require_levels_of (hr.mono (by decide)) (pa_cons (pv 0) (pa_cons (pv 1) pa_nil)))) (pss_one (ps_ret (pe_has h_class_in_levels (hr.mono (by decide)) (pa_cons (pv 0) (pa_cons (pv 1) pa_nil)))))), ?_⟩
  refine ⟨_, rfl, _, rfl, _, _, rs, ns, rfl, hC, ok, hU, okl, hk, ?_⟩
  rintro _ H1 e1 rfl
  refine ⟨_, rfl, _, rfl, _, _, rs, ns, rfl, hC.mono e1, ok, hU.mono e1, okl, ?_⟩
  intro z H2 e2 hz
  exact q _ _ (e1.trans e2) hz
/-- what may be asked of has_levels, and its answer -/
inductive Asked (rs : List Rg) (ns : List Int) (H : Hp) (z : V) : Bool → Prop where
  | plain (k : Kind) (h : KindV H z k) (n : k.isTup = false) : Asked rs ns H z false
  | size (ys : List V) (h : IsT H z ys) (n : ys.length ≠ 2) : Asked rs ns H z false
  | degree (a b : V) (k : Kind) (h : IsT H z [a, b]) (ha : KindV H a k) (n : k.isInt = false) : Asked rs ns H z false
  | list (d : Int) (b : V) (xs : List V) (h : IsT H z [.int d, b]) (hd : (if d < 0 then -d else d) < 10 ^ 60) (hb : IsL H b xs) : Asked rs ns H z false
  | cls (d : Int) (b : V) (ps : List Int) (h : IsT H z [.int d, b]) (hd : (if d < 0 then -d else d) < 10 ^ 60) (hb : IsT H b (iv ps)) : Asked rs ns H z (inP rs ps && decide (levs rs ps d ns.length = ns))
theorem inP_len {rs : List Rg} {ps : List Int} (h : inP rs ps = true) : ps.length = rs.length := by
  unfold inP at h
  rw [Bool.and_eq_true] at h
  exact of_decide_eq_true h.1
def sp_has_levels (K : PySem.W.Frag) : Sp := fun vs H Q _ => ∃ v u z rs ns b, vs = [v, u, z] ∧ IsC H v rs ∧ okC rs ∧ IsT H u (iv ns) ∧ okL ns ∧ (∀ r ∈ rs, ordR r = ns.length) ∧ GxR.TabG H (tL K) ∧ Asked rs ns H z b ∧ RetV (.bl b) H Q
theorem sc_has_levels : FnScope ["chain", "levels", "value"] ["chain", "levels", "value"] (defScope s_has_levels) := ⟨rfl, rfl, rfl, by decide +kernel, rfl, by decide +kernel, by decide +kernel⟩
theorem h_has_levels (T : Top K mg) (h_require_levels_of : Has P w K mg base "require_levels_of" 7 ["chain", "levels"] sp_require_levels_of) (h_is_integer : Has P w K mg base "is_integer" 2 ["value"] sp_is_integer) (h_is_tuple_in : Has P w K mg base "is_tuple_in" 3 ["chain", "value"] sp_is_tuple_in) (h_levels_in : Has P w K mg base "levels_in" 5 ["chain", "degree", "places"] (sp_levels_in K)) : Has P w K mg base "has_levels" 8 ["chain", "levels", "value"] (sp_has_levels K) := by
  refine has_mk T 30 rfl rfl sc_has_levels (fun _ _ _ _ _ _ us hl => match us, hl with | [_, _, _], _ => rfl) ?len fun f cdv A outer s H vs Q E hr h => ?main
  case len =>
    rintro vs H Q E ⟨v, u, z, rs, ns, b, rfl, _⟩
    rfl
  obtain ⟨v, u, z, rs, ns, b, rfl, hC, ok, hU, okl, hk, hT, ha, q⟩ := h
  refine ⟨_, (pss_cons (ps_expr (pe_has h_require_levels_of (hr.mono (by decide)) (pa_cons (pv 0) (pa_cons (pv 1) pa_nil)))) (pss_cons (ps_if (PW.pt (pw_or (pt_not (pt_val (pe_callB call_isi (by rfl) T.m_isinstance (by decide +kernel) (pa_cons (pv 2) (pa_cons (pe_bltn (v := .ty "tuple") (by rfl) T.m_tuple (by decide +kernel) rfl) pa_nil))))) (pw_or (pt_cmpR op_ne (pe_callB call_len_seq (by rfl) T.m_len PySem.boot_len (pa_cons (pv 2) pa_nil)) pe_int (nomark _)) (pw_or (pt_not (pt_val (pe_has h_is_integer (hr.mono (by decide)) (pa_cons (pe_ix ix_tup (pv 2) pe_int (fun _ _ => rfl)) pa_nil)))) (pw_or1 (pt_not (pt_val (pe_has h_is_tuple_in (hr.mono (by decide)) (pa_cons (pv 0) (pa_cons (pe_ix ix_tup (pv 2) pe_int (fun _ _ => rfl)) pa_nil)))))))))) (pss_one (ps_ret pe_bl)) pss_nil) (pss_one (ps_ret (pe_cmpR (op_eqT hr.units) (pe_has h_levels_in (hr.mono (by decide)) (pa_cons (pv 0) (pa_cons (pe_ix ix_tup (pv 2) pe_int (fun _ _ => rfl)) (pa_cons (pe_ix ix_tup (pv 2) pe_int (fun _ _ => rfl)) pa_nil)))) (pv 1) (nomark _)))))), ?_⟩
  refine ⟨_, rfl, _, rfl, _, _, rs, ns, rfl, hC, ok, hU, okl, hk, ?_⟩
  rintro _ H1 e1 rfl
  cases ha with
  | plain kd hz n =>
    refine ⟨_, rfl, _, _, _, _, _, rfl, .ty _, (hz.mono e1).tyx, kit_tup _, _, rfl, ?_⟩
    rw [n]
    exact iteT (q _ _ e1 rfl)
  | size ys hz n =>
    obtain ⟨a, rfl, haa⟩ := hz.mono e1
    have hkd : KindV H1 (.ref a) (.tup ys) := ⟨a, rfl, haa⟩
    refine ⟨_, rfl, _, _, _, _, _, rfl, .ty _, hkd.tyx, kit_tup _, _, rfl, iteF ?_⟩
    refine ⟨_, rfl, a, _, rfl, .inr (SqT.of haa), rfl, _, rfl, ?_⟩
    have hne : decide (V.int (ys.length : Nat) = V.int 2) = false := decide_eq_false fun e => n (by
      have := (V.int.inj e)
      omega)
    rw [hne]
    exact iteT (q _ _ e1 rfl)
  | degree x y kd hz hx n =>
    obtain ⟨a, rfl, haa⟩ := hz.mono e1
    have hkd : KindV H1 (.ref a) (.tup [x, y]) := ⟨a, rfl, haa⟩
    refine ⟨_, rfl, _, _, _, _, _, rfl, .ty _, hkd.tyx, kit_tup _, _, rfl, iteF ?_⟩
    refine ⟨_, rfl, a, _, rfl, .inr (SqT.of haa), rfl, _, rfl, iteF ?_⟩
    refine ⟨_, rfl, a, _, _, _, rfl, rfl, SqT.of haa, atI0, _, kd, rfl, hx.mono e1, ?_⟩
    rintro _ H2 e2 rfl
    rw [n]
    exact ⟨_, rfl, iteT (q _ _ (e1.trans e2) rfl)⟩
  | list d y xs hz hd hb =>
    obtain ⟨a, rfl, haa⟩ := hz.mono e1
    have hkd : KindV H1 (.ref a) (.tup [.int d, y]) := ⟨a, rfl, haa⟩
    refine ⟨_, rfl, _, _, _, _, _, rfl, .ty _, hkd.tyx, kit_tup _, _, rfl, iteF ?_⟩
    refine ⟨_, rfl, a, _, rfl, .inr (SqT.of haa), rfl, _, rfl, iteF ?_⟩
    refine ⟨_, rfl, a, _, _, _, rfl, rfl, SqT.of haa, atI0, _, .int d, rfl, rfl, ?_⟩
    rintro _ H2 e2 rfl
    rw [show ((Kind.int d).isInt && decide ((if (Kind.int d).num < 0 then -(Kind.int d).num else (Kind.int d).num) < 10 ^ 60)) = true by
      show (true && decide ((if d < 0 then -d else d) < 10 ^ 60)) = true
      rw [decide_eq_true hd]
      rfl]
    refine ⟨_, rfl, iteF ?_⟩
    refine ⟨_, rfl, _, rfl, a, _, _, _, rfl, rfl, SqT.of (e2.tup haa), atI1, _, _, rs, rfl, hC.mono (e1.trans e2), ok, .inr ⟨xs, hb.mono (e1.trans e2), ?_⟩⟩
    rintro _ H3 e3 rfl
    exact ⟨_, rfl, iteT (q _ _ ((e1.trans e2).trans e3) rfl)⟩
  | cls d y ps hz hd hb =>
    obtain ⟨a, rfl, haa⟩ := hz.mono e1
    have hkd : KindV H1 (.ref a) (.tup [.int d, y]) := ⟨a, rfl, haa⟩
    refine ⟨_, rfl, _, _, _, _, _, rfl, .ty _, hkd.tyx, kit_tup _, _, rfl, iteF ?_⟩
    refine ⟨_, rfl, a, _, rfl, .inr (SqT.of haa), rfl, _, rfl, iteF ?_⟩
    refine ⟨_, rfl, a, _, _, _, rfl, rfl, SqT.of haa, atI0, _, .int d, rfl, rfl, ?_⟩
    rintro _ H2 e2 rfl
    rw [show ((Kind.int d).isInt && decide ((if (Kind.int d).num < 0 then -(Kind.int d).num else (Kind.int d).num) < 10 ^ 60)) = true by
      show (true && decide ((if d < 0 then -d else d) < 10 ^ 60)) = true
      rw [decide_eq_true hd]
      rfl]
    refine ⟨_, rfl, iteF ?_⟩
    refine ⟨_, rfl, _, rfl, a, _, _, _, rfl, rfl, SqT.of (e2.tup haa), atI1, _, _, rs, rfl, hC.mono (e1.trans e2), ok, .inl ⟨ps, hb.mono (e1.trans e2), ?_⟩⟩
    rintro _ H3 e3 rfl
    have e4 := (e1.trans e2).trans e3
    cases hin : inP rs ps with
    | false =>
      refine ⟨_, rfl, iteT (q _ _ e4 ?_)⟩
      rw [hin]
      rfl
    | true =>
      refine ⟨_, rfl, iteF ?_⟩
      have ha3 := (e2.trans e3).tup haa
      have l2 := okl.1
      have l7 := okl.2.1
      refine ⟨_, rfl, _, rfl, a, _, _, _, rfl, rfl, SqT.of ha3, atI0, _, rfl, a, _, _, _, rfl, rfl, SqT.of ha3, atI1, _, _, rs, ps, d, ns.length, rfl, hC.mono e4, ok, hk, by omega, by omega, hb.mono e4, inP_len hin, e4.tab hT, ?_⟩
      rintro z4 H4 e5 hz4
      refine ⟨_, rfl, _, _, hz4, hU.mono (e4.trans e5), q _ _ (e4.trans e5) ?_⟩
      rw [hin]
      rfl
end K7

set_option Elab.async false
set_option linter.all false
set_option maxRecDepth 100000
set_option maxHeartbeats 4000000
namespace K7
open PySem PySem.Spec PyProof.Rows L2
variable {P : Program} {w : World} {K : PySem.W.Frag} {mg : Str → Option Value} {base : Heap}
theorem fmod_nn {a b : Int} (h : 0 < b) : 0 ≤ a.fmod b := (fmod_in a h).1
theorem pw1 : CPowW 10 60 := ⟨by decide, by decide +kernel⟩
theorem pw2 : CPowW ((10 : Int) ^ (60 : Int).toNat) 10 := ⟨by decide, by decide +kernel⟩
theorem pw3 : CPowW 10 18 := ⟨by decide, by decide +kernel⟩
def sp_L_dice0 (K : PySem.W.Frag) : Sp := fun vs H Q _ => ∃ (a : Addr) (ns : List Int) (i : Int), vs = [.ref a, .int i] ∧ SqL K H a (iv ns) ∧ 0 ≤ i ∧ i ≤ 10 ∧
  ∀ (d : Addr) (x y : Int), H d = none → 0 ≤ x → 0 ≤ y → Q (.ref d) (upd H d (.lst [.int x, .int y, .int 0]))
theorem sc_L_dice : FnScope ["_law_script", "_law_at", "_law_cell", "_law_great", "_law_left", "_law_mixed"] ["_law_script", "_law_at"] (defScope s_L_dice) := ⟨rfl, rfl, rfl, by decide +kernel, rfl, by decide +kernel, by decide +kernel⟩
theorem h0_L_dice (T : Top K mg) : Has P w K mg base "_law_dice" 1 ["_law_script", "_law_at"] (sp_L_dice0 K) := by
  refine has_mk T 31 rfl rfl sc_L_dice (fun _ _ _ _ _ _ us hl => match us, hl with | [_, _], _ => rfl) ?len fun f cdv A outer s H vs Q E hr h => ?main
  case len =>
    rintro vs H Q E ⟨a, ns, i, rfl, _⟩
    rfl
  obtain ⟨a, ns, i, rfl, hS, i0, i1, q⟩ := h
  refine ⟨_, (pss_cons (ps_set (i := 2) sc_L_dice.nd rfl (by first | exact Or.inl rfl | exact Or.inr rfl) (pe_op op_add (pe_op op_mul pe_int (pv 1)) pe_int)) (pss_cons (ps_if (pt_cmpR op_lt (pv 1) (pe_callB call_len_seq (by rfl) T.m_len PySem.boot_len (pa_cons (pv 0) pa_nil)) (nomark _)) (pss_one (ps_set (i := 2) sc_L_dice.nd rfl (by first | exact Or.inl rfl | exact Or.inr rfl) (pe_ix ix_list (pv 0) (pv 1) (fun _ _ => rfl)))) pss_nil) (pss_cons (ps_set (i := 3) sc_L_dice.nd rfl (by first | exact Or.inl rfl | exact Or.inr rfl) (pe_op op_modN (pe_callTy call_int1 (by rfl) T.m_int (by decide +kernel) (pa_cons (pe_callB call_abs (by rfl) T.m_abs (by decide +kernel) (pa_cons (pv 2) pa_nil)) pa_nil)) (pe_op op_powW (pe_op op_powW pe_int pe_int) pe_int))) (pss_cons (ps_set (i := 4) sc_L_dice.nd rfl (by first | exact Or.inl rfl | exact Or.inr rfl) (pe_op op_fdivW (pv 3) (pe_op op_powW pe_int pe_int))) (pss_cons (ps_set (i := 5) sc_L_dice.nd rfl (by first | exact Or.inl rfl | exact Or.inr rfl) (pe_op op_add (pe_op op_add (pe_op op_add (pe_op op_mul (pe_op op_modN (pv 3) pe_int) pe_int) (pe_op op_mul pe_int (pv 1))) (pe_op op_mul pe_int (pe_callTy call_int1 (by rfl) T.m_int (by decide +kernel) (pa_cons (pe_cmpR op_lt (pv 2) pe_int (nomark _)) pa_nil)))) pe_int)) (pss_one (ps_ret (pe_lst (pa_cons (pv 4) (pa_cons (pe_op op_modN (pv 5) pe_int) (pa_cons pe_int pa_nil))))))))))), ?_⟩
  have pos : (0 : Int) < ((10 : Int) ^ (60 : Int).toNat) ^ (10 : Int).toNat := by decide +kernel
  refine ⟨_, rfl, _, _, rfl, rfl, .inl ⟨by decide, by decide⟩, _, _, rfl, rfl, ?_⟩
  refine ⟨_, rfl, _, rfl, a, _, rfl, .inl hS, _, _, rfl, rfl, _, rfl, ite2 (fun c => ?one) fun c => ?two⟩
  case' one =>
    have hc : i < (iv ns).length := of_decide_eq_true c
    rw [iv_len] at hc
    refine ⟨_, rfl, _, rfl, a, _, _, _, rfl, rfl, hS, nth_at i0 hc, ?_⟩
  all_goals
    refine ⟨_, rfl, _, rfl, .inl ⟨_, rfl, _, _, rfl, rfl, pw1, _, _, rfl, rfl, pw2, _, _, rfl, rfl, Int.ne_of_gt pos, ?_⟩⟩
    refine ⟨_, rfl, _, _, rfl, rfl, pw3, _, _, rfl, rfl, wide_div (b := 60) (by decide +kernel) (by decide +kernel) (by decide) (by decide), ?_⟩
    refine ⟨_, rfl, _, _, rfl, rfl, by show (2147482697 : Int) ≠ 0; decide, _, _, rfl, rfl, .inr ⟨by decide, by decide⟩, _, rfl, _, _, rfl, rfl, .inl ⟨by decide, by decide⟩, _, _, rfl, rfl, _, rfl, _, _, rfl, rfl, .inr ⟨_, rfl, _, _, rfl, rfl, .inl ⟨by decide, by decide⟩, _, _, rfl, rfl, _, _, rfl, rfl, ?_⟩⟩
    refine ⟨_, rfl, _, rfl, _, _, rfl, rfl, by show (2147482661 : Int) ≠ 0; decide, by show 3 ≤ sizeLine; decide, fun d nd => ?_⟩
    exact q d _ _ nd (Int.ediv_nonneg (fmod_nn pos) (by decide +kernel)) (fmod_nn (by decide))
def sp_L_dice (K : PySem.W.Frag) : Sp := fun vs H Q _ => ∃ (a : Addr) (ns : List Int) (i : Int), vs = [.ref a, .int i] ∧ SqL K H a (iv ns) ∧ 0 ≤ i ∧ i ≤ 10 ∧ Ret (fun v H' => Dice H' v) H Q
theorem h_L_dice (T : Top K mg) : Has P w K mg base "_law_dice" 1 ["_law_script", "_law_at"] (sp_L_dice K) := by
  refine (h0_L_dice T).diceNew (fun vs H Q E ⟨a, ns, i, e, _⟩ => by rw [e]; rfl) fun vs H Q E ⟨a, ns, i, e, hS, i0, i1, q⟩ => ⟨a, ns, i, e, hS, i0, i1, fun d x y nd hx hy => ⟨d, x, y, 0, nd, hx, hy, by decide, upd_same, ?_⟩⟩
  rw [upd_upd]
  exact q _ _ (Ex.new nd) ⟨d, rfl, upd_same⟩
/-! a roll -/
theorem upd_id {H : Hp} {a : Addr} {o : HO} (h : H a = some o) : upd H a o = H := by
  funext b
  by_cases hb : b = a
  · rw [hb, upd_same, h]
  · rw [upd_ne hb]
def sp_L_roll0 : Sp := fun vs H Q _ => ∃ (d : Addr) (t x y z : Int), vs = [.ref d, .int t] ∧ H d = some (.lst [.int x, .int y, .int z]) ∧ 0 ≤ x ∧ 0 ≤ y ∧ 0 ≤ z ∧ 0 < t ∧ t ≤ 1000 ∧
  ∀ r x' y' z' : Int, 0 ≤ r → r < t → 0 ≤ x' → 0 ≤ y' → 0 ≤ z' → Q (.int r) (upd H d (.lst [.int x', .int y', .int z']))
theorem sc_L_roll : FnScope ["_law_dice_here", "_law_total", "_law_size", "_law_drawn", "_law_one", "_law_two"] ["_law_dice_here", "_law_total"] (defScope s_L_roll) := ⟨rfl, rfl, rfl, by decide +kernel, rfl, by decide +kernel, by decide +kernel⟩
theorem h0_L_roll (T : Top K mg) : Has P w K mg base "_law_roll" 1 ["_law_dice_here", "_law_total"] sp_L_roll0 := by
  refine has_mk T 32 rfl rfl sc_L_roll (fun _ _ _ _ _ _ us hl => match us, hl with | [_, _], _ => rfl) ?len fun f cdv A outer s H vs Q E hr h => ?main
  case len =>
    rintro vs H Q E ⟨d, t, x, y, z, rfl, _⟩
    rfl
  obtain ⟨d, t, x, y, z, rfl, hd, x0, y0, z0, t0, t1, q⟩ := h
  have tne : t ≠ 0 := by omega
  have hS := SqL.of (K := K) hd
  refine ⟨_, (pss_cons (ps_set (i := 2) sc_L_roll.nd rfl (by first | exact Or.inl rfl | exact Or.inr rfl) (pe_callTy call_int1 (by rfl) T.m_int (by decide +kernel) (pa_cons (pv 1) pa_nil))) (pss_cons (ps_if (pt_cmpR op_gt (pe_ix ix_list (pv 0) pe_int (fun _ _ => rfl)) pe_int (nomark _)) (pss_cons (ps_set (i := 3) sc_L_roll.nd rfl (by first | exact Or.inl rfl | exact Or.inr rfl) (pe_op op_modN (pe_ix ix_list (pv 0) pe_int (fun _ _ => rfl)) (pv 2))) (pss_cons (ps_asg (pe_op op_fdivN (pe_ix ix_list (pv 0) pe_int (fun _ _ => rfl)) (pv 2)) (pg_sub (pv 0) pe_int set_list)) (pss_one (ps_ret (pe_callTy call_int1 (by rfl) T.m_int (by decide +kernel) (pa_cons (pv 3) pa_nil)))))) pss_nil) (pss_cons (ps_asg (pe_op op_add (pe_ix ix_list (pv 0) pe_int (fun _ _ => rfl)) pe_int) (pg_sub (pv 0) pe_int set_list)) (pss_cons (ps_set (i := 4) sc_L_roll.nd rfl (by first | exact Or.inl rfl | exact Or.inr rfl) (pe_op op_modN (pe_op op_add (pe_ix ix_list (pv 0) pe_int (fun _ _ => rfl)) (pe_op op_mul pe_int (pe_ix ix_list (pv 0) pe_int (fun _ _ => rfl)))) pe_int)) (pss_cons (ps_set (i := 5) sc_L_roll.nd rfl (by first | exact Or.inl rfl | exact Or.inr rfl) (pe_op op_add (pe_op op_mul (pe_op op_modN (pe_op op_mul (pv 4) (pv 4)) pe_int) (pv 4)) (pe_op op_mul pe_int (pe_ix ix_list (pv 0) pe_int (fun _ _ => rfl))))) (pss_cons (ps_set (i := 5) sc_L_roll.nd rfl (by first | exact Or.inl rfl | exact Or.inr rfl) (pe_op op_modN (pv 5) pe_int)) (pss_one (ps_ret (pe_callTy call_int1 (by rfl) T.m_int (by decide +kernel) (pa_cons (pe_op op_modN (pe_op op_fdivN (pv 5) pe_int) (pv 2)) pa_nil)))))))))), ?_⟩
  refine ⟨_, rfl, .inl ⟨_, rfl, ?_⟩⟩
  refine ⟨_, rfl, d, _, _, _, rfl, rfl, hS, atI0, _, _, rfl, rfl, _, rfl, ite2 (fun c => ?_) fun c => ?_⟩
  · refine ⟨_, rfl, d, _, _, _, rfl, rfl, hS, atI0, _, rfl, _, _, rfl, rfl, tne, ?_⟩
    refine ⟨_, rfl, d, _, _, _, rfl, rfl, hS, atI0, _, rfl, _, _, rfl, rfl, ⟨tne, by omega⟩, _, rfl, d, _, 0, 0, rfl, rfl, hd, rfl, ?_⟩
    refine ⟨_, rfl, .inl ⟨_, rfl, ?_⟩⟩
    have h2 := fmod_in x t0
    exact q _ (x.fdiv t) y z h2.1 h2.2 (by rw [Int.fdiv_eq_ediv_of_nonneg _ (by omega)]; exact Int.ediv_nonneg x0 (by omega)) y0 z0
  · refine ⟨_, rfl, d, _, _, _, rfl, rfl, hS, atI_nat (j := 2) rfl, _, _, rfl, rfl, _, rfl, d, _, 2, 2, rfl, rfl, hd, rfl, ?_⟩
    have hS2 : SqL K (upd H d (.lst [.int x, .int y, .int (z + 1)])) d [.int x, .int y, .int (z + 1)] := SqL.of upd_same
    have m1 : (2305843009213693951 : Int) ≠ 0 := by decide
    have m2 : (2305843009213693921 : Int) ≠ 0 := by decide
    have m3 : (2305843009213693907 : Int) ≠ 0 := by decide
    have b1 := fmod_in (y + 1000409 * (z + 1)) (m := 2305843009213693951) (by decide)
    refine ⟨_, rfl, d, _, _, _, rfl, rfl, hS2, atI1, _, rfl, d, _, _, _, rfl, rfl, hS2, atI_nat (j := 2) rfl, _, _, rfl, rfl, .inl ⟨by decide, by decide⟩, _, _, rfl, rfl, _, _, rfl, rfl, m1, ?_⟩
    refine ⟨_, rfl, _, rfl, _, _, rfl, rfl, .inl ⟨by omega, by omega⟩, _, _, rfl, rfl, m2, _, rfl, _, _, rfl, rfl, .inr ⟨by omega, by omega⟩, _, rfl, d, _, _, _, rfl, rfl, hS2, atI_nat (j := 2) rfl, _, _, rfl, rfl, .inl ⟨by decide, by decide⟩, _, _, rfl, rfl, ?_⟩
    refine ⟨_, rfl, _, _, rfl, rfl, m3, ?_⟩
    refine ⟨_, rfl, _, _, rfl, rfl, ⟨by decide, by decide⟩, _, rfl, _, _, rfl, rfl, tne, .inl ⟨_, rfl, ?_⟩⟩
    have h2 := fmod_in (((((y + 1000409 * (z + 1)).fmod 2305843009213693951 * (y + 1000409 * (z + 1)).fmod 2305843009213693951).fmod 2305843009213693921 * (y + 1000409 * (z + 1)).fmod 2305843009213693951 + 9479 * (z + 1)).fmod 2305843009213693907).fdiv 4096) t0
    exact q _ x y (z + 1) h2.1 h2.2 x0 y0 (by omega)
def sp_L_roll : Sp := fun vs H Q _ => ∃ (v : V) (t : Int), vs = [v, .int t] ∧ Dice H v ∧ 0 < t ∧ t ≤ 1000 ∧ ∀ r : Int, 0 ≤ r → r < t → Q (.int r) H
theorem h_L_roll (T : Top K mg) : Has P w K mg base "_law_roll" 1 ["_law_dice_here", "_law_total"] sp_L_roll := by
  refine (h0_L_roll T).dice (fun vs H Q E ⟨v, t, e, _⟩ => by rw [e]; rfl) fun vs H Q E ⟨v, t, e, ⟨d, ev, hd⟩, t0, t1, q⟩ => ⟨d, hd, fun x y z x0 y0 z0 => ?_⟩
  refine ⟨d, t, x, y, z, by rw [e, ev], upd_same, x0, y0, z0, t0, t1, fun r x' y' z' r0 r1 a b c => ⟨x', y', z', a, b, c, upd_same, ?_⟩⟩
  rw [upd_upd, upd_upd, upd_id hd]
  exact q r r0 r1
/-! drawing -/
theorem atI_nat' {xs : List V} {r : Int} {v : V} (h : 0 ≤ r) (e : xs[r.toNat]? = some v) : atI xs r = some v := by
  obtain ⟨j, rfl⟩ : ∃ j : Nat, r = (j : Int) := ⟨r.toNat, by omega⟩
  exact atI_nat e
def sp_L_one_of (K : PySem.W.Frag) : Sp := fun vs H Q _ => ∃ (v : V) (a : Addr) (xs : List V), vs = [v, .ref a] ∧ Dice H v ∧ SqL K H a xs ∧ 0 < xs.length ∧ xs.length ≤ 1000 ∧ ∀ x ∈ xs, Q x H
theorem sc_L_one_of : FnScope ["_law_dice_here", "_law_items"] ["_law_dice_here", "_law_items"] (defScope s_L_one_of) := ⟨rfl, rfl, rfl, by decide +kernel, rfl, by decide +kernel, by decide +kernel⟩
theorem h_L_one_of (T : Top K mg) (h_L_roll : Has P w K mg base "_law_roll" 1 ["_law_dice_here", "_law_total"] sp_L_roll) : Has P w K mg base "_law_one_of" 2 ["_law_dice_here", "_law_items"] (sp_L_one_of K) := by
  refine has_mk T 33 rfl rfl sc_L_one_of (fun _ _ _ _ _ _ us hl => match us, hl with | [_, _], _ => rfl) ?len fun f cdv A outer s H vs Q E hr h => ?main
  case len =>
    rintro vs H Q E ⟨v, a, xs, rfl, _⟩
    rfl
  obtain ⟨v, a, xs, rfl, hd, hS, l0, l1, q⟩ := h
  refine ⟨_, (pss_one (ps_ret (pe_ix ix_list (pv 1) (pe_has h_L_roll (hr.mono (by decide)) (pa_cons (pv 0) (pa_cons (pe_callB call_len_seq (by rfl) T.m_len PySem.boot_len (pa_cons (pv 1) pa_nil)) pa_nil))) (fun _ _ => rfl)))), ?_⟩
  refine ⟨_, rfl, _, rfl, _, rfl, a, _, rfl, .inl hS, v, _, rfl, hd, by omega, by omega, fun r r0 r1 => ?_⟩
  have hr : r.toNat < xs.length := by omega
  exact ⟨a, _, _, _, rfl, rfl, hS, atI_nat' r0 (List.getElem?_eq_getElem hr), q _ (List.getElem_mem hr)⟩
end K7

set_option Elab.async false
set_option linter.all false
set_option maxRecDepth 100000
set_option maxHeartbeats 4000000
namespace K7
open PySem PySem.Spec PyProof.Rows L2
variable {P : Program} {w : World} {K : PySem.W.Frag} {mg : Str → Option Value} {base : Heap}
theorem fmod_nat (x y : Nat) : (x : Int).fmod y = ((x % y : Nat) : Int) := by
  rw [Int.fmod_eq_emod_of_nonneg _ (by omega)]
  exact (Int.natCast_emod x y).symm
theorem gcd_step (x y : Nat) : Nat.gcd y (x % y) = Nat.gcd x y := by
  rw [Nat.gcd_comm y, ← Nat.gcd_rec y x, Nat.gcd_comm]
def sp_L_common : Sp := fun vs H Q _ => ∃ a b : Int, vs = [.int a, .int b] ∧ 0 ≤ a ∧ 0 ≤ b ∧ RetV (.int (gcdI a b)) H Q
theorem sc_L_common : FnScope ["_law_one", "_law_other"] ["_law_one", "_law_other"] (defScope s_L_common) := ⟨rfl, rfl, rfl, by decide +kernel, rfl, by decide +kernel, by decide +kernel⟩
theorem h_L_common (T : Top K mg) : Has P w K mg base "_law_common" 1 ["_law_one", "_law_other"] sp_L_common := by
  refine has_mk T 34 rfl rfl sc_L_common (fun _ _ _ _ _ _ us hl => match us, hl with | [_, _], _ => rfl) ?len fun f cdv A outer s H vs Q E hr h => ?main
  case len =>
    rintro vs H Q E ⟨a, b, rfl, _⟩
    rfl
  obtain ⟨a, b, rfl, a0, b0, q⟩ := h
  refine ⟨_, (pss_cons (ps_while PassesOwn.never (pt_cmpR op_ne (pv 1) pe_int (nomark _)) (pss_one (ps_par (i := 0) (j := 1) (by rfl) sc_L_common.nd rfl rfl (by decide) rfl rfl (pa_cons (pv 1) (pa_cons (pe_op op_modN (pv 0) (pv 1)) pa_nil)) (by rfl)))) (pss_one (ps_ret (pv 0)))), ?_⟩
  refine ⟨fun m σ H' => ∃ x y : Nat, σ = [some (.int x), some (.int y)] ∧ H' = H ∧ m = y ∧ Nat.gcd x y = Nat.gcd a.natAbs b.natAbs, ⟨_, a.natAbs, b.natAbs, ?_, rfl, rfl, rfl⟩, ?_⟩
  · show [some (V.int a), some (V.int b)] = _
    rw [Int.natAbs_of_nonneg a0, Int.natAbs_of_nonneg b0]
  rintro m σ H1 ⟨x, y, rfl, rfl, hm, hg⟩
  refine ⟨_, rfl, rfl, _, rfl, ite2 (fun c => ?_) fun c => ?_⟩
  · have hy : y ≠ 0 := by
      intro z
      subst z
      simp at c
    refine ⟨_, fun σ' H' p => p, ?_⟩
    refine ⟨_, rfl, _, rfl, _, rfl, _, _, rfl, rfl, by omega, _, _, rfl, x % y, (by rw [hm]; exact Nat.mod_lt _ (by omega)), y, x % y, ?_, rfl, rfl, by rw [gcd_step, hg]⟩
    rw [← fmod_nat]
    rfl
  · have hy : y = 0 := by
      simp at c
      omega
    subst hy
    refine ⟨_, rfl, q _ _ (Ex.refl _) ?_⟩
    rw [Nat.gcd_zero_right] at hg
    unfold gcdI
    rw [← hg]
def sp_L_order : Sp := fun vs H Q _ => ∃ v r, vs = [v] ∧ IsR H v r ∧ okR r ∧ RetV (.int (ordR r)) H Q
theorem sc_L_order : FnScope ["_law_ring"] ["_law_ring"] (defScope s_L_order) := ⟨rfl, rfl, rfl, by decide +kernel, rfl, by decide +kernel, by decide +kernel⟩
theorem h_L_order (T : Top K mg) (h_L_common : Has P w K mg base "_law_common" 1 ["_law_one", "_law_other"] sp_L_common) : Has P w K mg base "_law_order" 2 ["_law_ring"] sp_L_order := by
  refine has_mk T 35 rfl rfl sc_L_order (fun _ _ _ _ _ _ us hl => match us, hl with | [_], _ => rfl) ?len fun f cdv A outer s H vs Q E hr h => ?main
  case len =>
    rintro vs H Q E ⟨v, r, rfl, _⟩
    rfl
  obtain ⟨v, r, rfl, hR, ok, q⟩ := h
  obtain ⟨p, rfl, hp⟩ := id hR
  refine ⟨_, (pss_one (ps_ret (pe_op op_fdivN (pe_ix ix_tup (pv 0) pe_int (fun _ _ => rfl)) (pe_has h_L_common (hr.mono (by decide)) (pa_cons (pe_ix ix_tup (pv 0) pe_int (fun _ _ => rfl)) (pa_cons (pe_ix ix_tup (pv 0) pe_int (fun _ _ => rfl)) pa_nil)))))), ?_⟩
  have o1 := ok.1
  have o3 := ok.2.2.1
  refine ⟨_, rfl, p, _, _, _, rfl, rfl, SqT.of hp, atI0, _, rfl, p, _, _, _, rfl, rfl, SqT.of hp, atI0, _, rfl, p, _, _, _, rfl, rfl, SqT.of hp, atI1, _, _, rfl, by omega, by omega, ?_⟩
  rintro _ H1 e1 rfl
  exact ⟨_, _, rfl, rfl, gcd_pos ok, q _ _ e1 rfl⟩
/-- a ring that is drawn -/
def rOk (k t : Int) (r : Rg) : Prop := ∃ m s : Int, r = (k * m, m * s) ∧ 1 ≤ m ∧ m ≤ t ∧ 1 ≤ s ∧ s < k ∧ gcdI k s = 1
def sp_L_ring_of : Sp := fun vs H Q _ => ∃ (v : V) (k t : Int), vs = [v, .int k, .int t] ∧ Dice H v ∧ 2 ≤ k ∧ k ≤ 7 ∧ 1 ≤ t ∧ t ≤ 2 ∧ Ret (fun z H' => ∃ r, IsR H' z r ∧ rOk k t r) H Q
theorem each_iv {ns : List Int} : ∀ {xs : List V}, Each (fun v d => v = V.int d) xs ns → xs = iv ns := fun h => each_int h
theorem sc_L_ring_of : FnScope ["_law_dice_here", "_law_k", "_law_times", "_law_more", "_law_steps", "_law_one"] ["_law_dice_here", "_law_k", "_law_times"] (defScope s_L_ring_of) := ⟨rfl, rfl, rfl, by decide +kernel, rfl, by decide +kernel, by decide +kernel⟩
theorem h_L_ring_of (T : Top K mg) (h_L_roll : Has P w K mg base "_law_roll" 1 ["_law_dice_here", "_law_total"] sp_L_roll) (h_L_common : Has P w K mg base "_law_common" 1 ["_law_one", "_law_other"] sp_L_common) (h_L_one_of : Has P w K mg base "_law_one_of" 2 ["_law_dice_here", "_law_items"] (sp_L_one_of K)) : Has P w K mg base "_law_ring_of" 3 ["_law_dice_here", "_law_k", "_law_times"] sp_L_ring_of := by
  refine has_mk T 36 rfl rfl sc_L_ring_of (fun _ _ _ _ _ _ us hl => match us, hl with | [_, _, _], _ => rfl) ?len fun f cdv A outer s H vs Q E hr h => ?main
  case len =>
    rintro vs H Q E ⟨v, k, t, rfl, _⟩
    rfl
  obtain ⟨v, k, t, rfl, hd, k0, k1, t0, t1, q⟩ := h
  refine ⟨_, (pss_cons (ps_set (i := 3) sc_L_ring_of.nd rfl (by first | exact Or.inl rfl | exact Or.inr rfl) (pe_op op_add pe_int (pe_has h_L_roll (hr.mono (by decide)) (pa_cons (pv 0) (pa_cons (pv 2) pa_nil))))) (pss_cons (ps_setLc (i := 4) rfl sc_L_ring_of.nd rfl rfl (sw_true rfl rfl rfl (by decide +kernel)) (pi_range2 (by rfl) T.m_range (pa_cons pe_int (pa_cons (pv 1) pa_nil))) (blkOk_by (own := [("_law_one", 5)]) (N := ["_law_dice_here", "_law_k", "_law_times", "_law_more", "_law_steps", "_law_one"]) (sc := (defScope s_L_ring_of)) (by decide +kernel)) (fun _ _ _ _ _ => (pg_name (i := 5) sc_L_ring_of.nd rfl (by first | exact Or.inl rfl | exact Or.inr rfl))) (fun _ _ _ _ _ => (pts_one (pt_cmpR op_eq (pe_has h_L_common (hr.mono (by decide)) (pa_cons (pv 1) (pa_cons (pv 5) pa_nil))) pe_int (nomark _)))) (fun _ _ _ _ _ => (pv 5))) (pss_one (ps_ret (pe_tup (pa_cons (pe_op op_mul (pv 1) (pv 3)) (pa_cons (pe_op op_mul (pv 3) (pe_has h_L_one_of (hr.mono (by decide)) (pa_cons (pv 0) (pa_cons (pv 4) pa_nil)))) pa_nil))))))), ?_⟩
  refine ⟨_, rfl, _, rfl, v, t, rfl, hd, by omega, by omega, fun r r0 r1 => ?_⟩
  refine ⟨_, _, rfl, rfl, ?_⟩
  refine ⟨_, rfl, _, _, rfl, ⟨by decide, by decide, by omega, by omega⟩, ?_⟩
  refine lc_go (walk_range (lo := 1) (n := (k - 1).toNat)) (by omega) (fun _ _ => trivial) (fun _ v (d : Int) => v = .int d) (fun _ _ _ _ _ h => h) (fun i => decide (gcdI k (1 + (i : Int)) = 1)) (fun i => 1 + (i : Int)) ?_ ?_
  · rintro i x H4 H5 hi e5 ⟨rfl, rfl⟩ F S hF hS
    refine ⟨rfl, _, rfl, _, rfl, _, _, rfl, by omega, by omega, ?_⟩
    rintro _ H6 e6 rfl
    refine ⟨rfl, _, rfl, ite2 (fun c => ?_) fun c => ?_⟩
    · refine ⟨_, rfl, hS ?_ _ _ e6 rfl⟩
      have c2 := of_decide_eq_true c
      exact decide_eq_true (V.int.inj c2)
    · refine hF ?_ _ e6
      refine decide_eq_false fun z => c ?_
      exact decide_eq_true (by rw [z])
  intro D H2 ys nD e2 hD hE
  have ey := each_int hE
  subst ey
  have hmem : ∀ x ∈ iv (giv (k - 1).toNat (fun i => decide (gcdI k (1 + (i : Int)) = 1)) fun i => 1 + (i : Int)), ∃ s : Int, x = .int s ∧ 1 ≤ s ∧ s < k ∧ gcdI k s = 1 := by
    intro x hx
    obtain ⟨s, hs, rfl⟩ := List.mem_map.mp hx
    obtain ⟨i, hi, rfl⟩ := List.mem_map.mp hs
    obtain ⟨hi1, hi2⟩ := List.mem_filter.mp hi
    have hi3 := List.mem_range.mp hi1
    exact ⟨_, rfl, by omega, by omega, of_decide_eq_true hi2⟩
  have hlen : 0 < (iv (giv (k - 1).toNat (fun i => decide (gcdI k (1 + (i : Int)) = 1)) fun i => 1 + (i : Int))).length := by
    refine List.length_pos_of_mem (a := V.int (1 + ((0 : Nat) : Int))) (List.mem_map.mpr ⟨_, List.mem_map.mpr ⟨0, List.mem_filter.mpr ⟨List.mem_range.mpr (by omega), ?_⟩, rfl⟩, rfl⟩)
    refine decide_eq_true ?_
    unfold gcdI
    simp
  have hlen2 : (iv (giv (k - 1).toNat (fun i => decide (gcdI k (1 + (i : Int)) = 1)) fun i => 1 + (i : Int))).length ≤ 1000 := by
    rw [iv_len]
    have := giv_len (k - 1).toNat (fun i => decide (gcdI k (1 + (i : Int)) = 1)) fun i => 1 + (i : Int)
    omega
  refine ⟨_, rfl, _, rfl, _, _, rfl, rfl, .inr ⟨by omega, by omega⟩, _, rfl, _, rfl, _, rfl, v, D, _, rfl, hd.mono e2, SqL.of hD, hlen, hlen2, fun x hx => ?_⟩
  obtain ⟨s, rfl, s1, s2, s3⟩ := hmem x hx
  refine ⟨_, _, rfl, rfl, .inr ⟨by omega, by omega⟩, by show 2 ≤ sizeLine; decide, fun t2 nt2 => ?_⟩
  exact q _ _ (e2.trans (Ex.new nt2)) ⟨_, ⟨t2, rfl, upd_same⟩, 1 + r, s, rfl, by omega, by omega, s1, s2, s3⟩
/-- from a ring that is drawn -/
theorem gcd_mul (m k s : Int) (hm : 1 ≤ m) : gcdI (k * m) (m * s) = m * gcdI k s := by
  unfold gcdI
  rw [Int.natAbs_mul, Int.natAbs_mul, Nat.mul_comm k.natAbs, Nat.gcd_mul_left]
  rw [Int.natCast_mul, Int.natAbs_of_nonneg (by omega)]
theorem rOk.ok {k t : Int} {r : Rg} (h : rOk k t r) (k0 : 2 ≤ k) (k1 : k ≤ 7) (t1 : t ≤ 2) : okR r ∧ ordR r = k := by
  obtain ⟨m, s, rfl, m1, m2, s1, s2, g⟩ := h
  have a : m = 1 ∨ m = 2 := by omega
  refine ⟨?_, ?_⟩
  · unfold okR
    rcases a with rfl | rfl <;> (dsimp only; omega)
  · unfold ordR
    show (k * m).fdiv (gcdI (k * m) (m * s)) = k
    rw [gcd_mul m k s m1, g, Int.mul_one]
    exact Int.mul_fdiv_cancel _ (by omega)
end K7

set_option Elab.async false
set_option linter.all false
set_option maxRecDepth 100000
set_option maxHeartbeats 4000000
namespace K7
open PySem PySem.Spec PyProof.Rows L2
variable {P : Program} {w : World} {K : PySem.W.Frag} {mg : Str → Option Value} {base : Heap}
theorem each_pick {α : Type} {R : V → α → Prop} : ∀ {xs : List V}, (∀ x ∈ xs, ∃ d, R x d) → ∃ ds, Each R xs ds
  | [], _ => ⟨[], Each.nil⟩
  | x :: r, h => by
    obtain ⟨d, hd⟩ := h x List.mem_cons_self
    obtain ⟨ds, hds⟩ := each_pick (xs := r) fun y hy => h y (List.mem_cons_of_mem _ hy)
    exact ⟨d :: ds, hds.cons hd⟩
def sp_L_equal_chain : Sp := fun vs H Q _ => ∃ (v : V) (g k : Int), vs = [v, .int g, .int k] ∧ Dice H v ∧ 1 ≤ g ∧ g ≤ 12 ∧ 2 ≤ k ∧ k ≤ 7 ∧ Ret (fun z H' => ∃ rs, IsC H' z rs ∧ rs.length = g.toNat ∧ ∀ r ∈ rs, rOk k 2 r) H Q
theorem sc_L_equal_chain : FnScope ["_law_dice_here", "_law_rings", "_law_k", "_law_turn"] ["_law_dice_here", "_law_rings", "_law_k"] (defScope s_L_equal_chain) := ⟨rfl, rfl, rfl, by decide +kernel, rfl, by decide +kernel, by decide +kernel⟩
theorem h_L_equal_chain (T : Top K mg) (h_L_ring_of : Has P w K mg base "_law_ring_of" 3 ["_law_dice_here", "_law_k", "_law_times"] sp_L_ring_of) : Has P w K mg base "_law_equal_chain" 4 ["_law_dice_here", "_law_rings", "_law_k"] sp_L_equal_chain := by
  refine has_mk T 37 rfl rfl sc_L_equal_chain (fun _ _ _ _ _ _ us hl => match us, hl with | [_, _, _], _ => rfl) ?len fun f cdv A outer s H vs Q E hr h => ?main
  case len =>
    rintro vs H Q E ⟨v, g, k, rfl, _⟩
    rfl
  obtain ⟨v, g, k, rfl, hd, g0, g1, k0, k1, q⟩ := h
  refine ⟨_, (pss_one (ps_ret (pe_callTy call_tuple_of (by rfl) T.m_tuple (by decide +kernel) (pa_cons (pe_lc rfl sc_L_equal_chain.nd (pi_range1 (by rfl) T.m_range (pa_cons (pv 1) pa_nil)) (blkOk_by (own := [("_law_turn", 3)]) (N := ["_law_dice_here", "_law_rings", "_law_k", "_law_turn"]) (sc := (defScope s_L_equal_chain)) (by decide +kernel)) (fun _ _ _ _ _ => (pg_name (i := 3) sc_L_equal_chain.nd rfl (by first | exact Or.inl rfl | exact Or.inr rfl))) (fun _ _ _ _ _ => pts_nil) (fun _ _ _ _ _ => (pe_has h_L_ring_of (hr.mono (by decide)) (pa_cons (pv 0) (pa_cons (pv 2) (pa_cons pe_int pa_nil)))))) pa_nil)))), ?_⟩
  refine ⟨_, rfl, _, rfl, by omega, by omega, ?_⟩
  refine lc_all (walk_range (lo := 0) (n := g.toNat)) (by omega) (fun _ _ => trivial) (fun H v (d : Unit) => ∃ r, IsR H v r ∧ rOk k 2 r) (fun H H' v d t ⟨r, a, b⟩ => ⟨r, IsT.tm t a, b⟩) (fun _ => ()) (gm1 _) ?_ ?_
  · rintro i x H4 H5 hi e5 ⟨rfl, rfl⟩ S hS
    refine ⟨rfl, _, rfl, _, rfl, v, k, 2, rfl, hd.mono e5, k0, k1, by decide, by decide, ?_⟩
    intro z H6 e6 hz
    exact hS _ _ e6 hz
  intro D H2 ys nD e2 hD hE
  refine ⟨D, _, rfl, .inl ⟨SqL.of hD, fun t nt => ?_⟩⟩
  have hl : ys.length = g.toNat := by rw [hE.1, List.length_map, List.length_range]
  obtain ⟨rs, hrs⟩ := each_pick (R := fun v r => IsR H2 v r ∧ rOk k 2 r) (xs := ys) fun x hx => by
    obtain ⟨i, hi, rfl⟩ := List.getElem_of_mem hx
    obtain ⟨d, _, r, a, b⟩ := hE.at' (List.getElem?_eq_getElem hi)
    exact ⟨r, a, b⟩
  refine q _ _ (e2.trans (Ex.new nt)) ⟨rs, ⟨ys, ⟨t, rfl, upd_same⟩, hrs.mono fun x r h => IsT.mono (Ex.new nt) h.1⟩, by rw [← hrs.1, hl], fun r hr => ?_⟩
  obtain ⟨i, hi, rfl⟩ := List.getElem_of_mem hr
  obtain ⟨x, _, h⟩ := hrs.at (List.getElem?_eq_getElem hi)
  exact h.2
/-- places that are right so far -/
def inTo (rs : List Rg) (ps : List Int) : Prop := ∀ i : Nat, i < ps.length → 0 ≤ ps.getD i 0 ∧ ps.getD i 0 ≤ (rs.getD i default).1 - 1
theorem inTo_snoc {rs : List Rg} {ps : List Int} {n : Int} (h : inTo rs ps) (a : 0 ≤ n) (b : n ≤ (rs.getD ps.length default).1 - 1) : inTo rs (ps ++ [n]) := by
  intro i hi
  rw [List.length_append, List.length_singleton] at hi
  by_cases h2 : i < ps.length
  · rw [List.getD_eq_getElem?_getD, List.getElem?_append_left h2, ← List.getD_eq_getElem?_getD]
    exact h i h2
  · obtain rfl : i = ps.length := by omega
    rw [List.getD_eq_getElem?_getD, List.getElem?_append_right (Nat.le_refl _), Nat.sub_self]
    exact ⟨a, b⟩
theorem inTo_in {rs : List Rg} {ps : List Int} (h : inTo rs ps) (l : ps.length = rs.length) : inP rs ps = true := by
  unfold inP
  rw [decide_eq_true l, Bool.true_and, List.all_eq_true]
  intro b hb
  obtain ⟨i, hi, rfl⟩ := List.mem_map.mp hb
  have hi' := List.mem_range.mp hi
  obtain ⟨h1, h2⟩ := h i (by omega)
  show (decide _ && decide _) = true
  rw [decide_eq_true h1, decide_eq_true h2]
  rfl
def sp_L_tuple : Sp := fun vs H Q _ => ∃ v u rs, vs = [v, u] ∧ Dice H v ∧ IsC H u rs ∧ okC rs ∧ Ret (fun z H' => ∃ ps, IsT H' z (iv ps) ∧ inP rs ps = true) H Q
theorem sc_L_tuple : FnScope ["_law_dice_here", "_law_chain", "_law_found", "_law_n", "_law_s"] ["_law_dice_here", "_law_chain"] (defScope s_L_tuple) := ⟨rfl, rfl, rfl, by decide +kernel, rfl, by decide +kernel, by decide +kernel⟩
theorem h_L_tuple (T : Top K mg) (h_L_roll : Has P w K mg base "_law_roll" 1 ["_law_dice_here", "_law_total"] sp_L_roll) : Has P w K mg base "_law_tuple" 2 ["_law_dice_here", "_law_chain"] sp_L_tuple := by
  refine has_mk T 38 rfl rfl sc_L_tuple (fun _ _ _ _ _ _ us hl => match us, hl with | [_, _], _ => rfl) ?len fun f cdv A outer s H vs Q E hr h => ?main
  case len =>
    rintro vs H Q E ⟨v, u, rs, rfl, _⟩
    rfl
  obtain ⟨v, u, rs, rfl, hd, hC, okc, q⟩ := h
  obtain ⟨xs, ⟨p, rfl, hp⟩, he⟩ := id hC
  have hxl := he.1
  obtain ⟨c1, c2, c3⟩ := okc
  refine ⟨_, (pss_cons (ps_set (i := 2) sc_L_tuple.nd rfl (by first | exact Or.inl rfl | exact Or.inr rfl) (pe_lst pa_nil)) (pss_cons (ps_for PassesOwn.never rfl (pi_tup (pv 1)) (pg_tup rfl (pgs_cons (pg_name (i := 3) sc_L_tuple.nd rfl (by first | exact Or.inl rfl | exact Or.inr rfl)) (pgs_cons (pg_name (i := 4) sc_L_tuple.nd rfl (by first | exact Or.inl rfl | exact Or.inr rfl)) pgs_nil))) (pss_one (ps_expr (pe_bm PySem.F.plainAttrs_list PySem.F.slot_list_append PySem.F.type_list_append mt_append (pv 2) (pa_cons (pe_ifExp (pt_cmpR op_eq (pe_has h_L_roll (hr.mono (by decide)) (pa_cons (pv 0) (pa_cons pe_int pa_nil))) pe_int (nomark _)) (pe_has h_L_roll (hr.mono (by decide)) (pa_cons (pv 0) (pa_cons (pv 3) pa_nil))) (pe_op op_modN (pe_op op_mul (pe_op op_sub (pe_has h_L_roll (hr.mono (by decide)) (pa_cons (pv 0) (pa_cons pe_int pa_nil))) pe_int) (pv 4)) (pv 3))) pa_nil))))) (pss_one (ps_ret (pe_callTy call_tuple_of (by rfl) T.m_tuple (by decide +kernel) (pa_cons (pv 2) pa_nil)))))), ?_⟩
  refine ⟨Nat.zero_le _, fun l nl => ?_⟩
  have e0 : Ex H (upd H l (.lst [])) := Ex.new nl
  refine ⟨_, rfl, p, rfl, ⟨_, SqT.of (e0.tup hp)⟩, for_it (walk_tup (K := K) (xs := xs)) (fun i σ H' => ∃ b1 b2 ps, σ = [some v, some (.ref p), some (.ref l), b1, b2] ∧ Ex H H' ∧ H' l = some (.lst (iv ps)) ∧ ps.length = i ∧ inTo rs ps) ⟨none, none, [], rfl, e0, upd_same, rfl, fun i hi => absurd hi (Nat.not_lt_zero _)⟩ (fun i σ H' hi ⟨_, _, _, _, e, _⟩ => SqT.of (e.tup hp)) ?_ ?_⟩
  · rintro i x σ H1 H2 hi ⟨b1, b2, ps, rfl, e1, hl, hpl, hin⟩ ⟨rfl, hx⟩
    obtain ⟨r, hr, hR⟩ := he.at' hx
    obtain ⟨a, rfl, ha⟩ := IsT.mono e1 hR
    obtain ⟨o1, o2, o3, o4⟩ := c3 r (List.mem_of_getElem? hr)
    have hrd : rs.getD ps.length default = r := by rw [hpl]; exact getD_d hr
    refine ⟨a, _, rfl, SqT.of ha, rfl, _, _, rfl, _, _, rfl, rfl, ?_⟩
    have fin : ∀ n : Int, 0 ≤ n → n ≤ r.1 - 1 → ∃ b1 b2 ps', ([some v, some (V.ref p), some (V.ref l), some (V.int r.1), some (V.int r.2)] : L2.St) = [some v, some (.ref p), some (.ref l), b1, b2] ∧ Ex H (upd H2 l (.lst (iv ps ++ [.int n]))) ∧ (upd H2 l (.lst (iv ps ++ [.int n]))) l = some (.lst (iv ps')) ∧ ps'.length = i + 1 ∧ inTo rs ps' := fun n n0 n1 =>
      ⟨_, _, ps ++ [n], rfl, e1.mut nl, by rw [upd_same]; show _ = some (HO.lst (List.map V.int (ps ++ [n]))); rw [List.map_append]; rfl, by rw [List.length_append, List.length_singleton, hpl], inTo_snoc hin n0 (by rw [hrd]; exact n1)⟩
    have hls : (iv ps).length < sizeLine := szl _ (by rw [iv_len]; omega)
    refine ⟨_, rfl, ?_⟩
    refine ⟨.inl ⟨rfl, _, SqL.of hl⟩, ?_⟩
    refine ⟨_, rfl, v, 4, rfl, hd.mono e1, by decide, by decide, fun r1 a1 a2 => ⟨rfl, _, rfl, ite2 (fun c => ?_) fun c => ?_⟩⟩
    · refine ⟨_, rfl, _, rfl, v, r.1, rfl, hd.mono e1, by omega, by omega, fun r2 a3 a4 => ?_⟩
      exact ⟨l, _, _, rfl, rfl, hl, hls, fin r2 a3 (by omega)⟩
    · refine ⟨_, rfl, v, 5, rfl, hd.mono e1, by decide, by decide, fun r2 a3 a4 => ?_⟩
      refine ⟨_, _, rfl, rfl, _, rfl, _, _, rfl, rfl, .inr ⟨by omega, by omega⟩, _, rfl, _, _, rfl, rfl, by omega, ?_⟩
      have b := fmod_in ((r2 - 2) * r.2) (m := r.1) (by omega)
      exact ⟨l, _, _, rfl, rfl, hl, hls, fin _ b.1 (by omega)⟩
  · rintro σ H1 ⟨b1, b2, ps, rfl, e1, hl, hpl, hin⟩
    refine ⟨_, rfl, l, _, rfl, .inl ⟨SqL.of hl, fun t nt => ?_⟩⟩
    exact q _ _ (e1.trans (Ex.new nt)) ⟨ps, ⟨t, rfl, upd_same⟩, inTo_in hin (by rw [hpl, hxl])⟩
end K7

set_option Elab.async false
set_option linter.all false
set_option maxRecDepth 100000
set_option maxHeartbeats 4000000
/-! a dict of numbers at the numbers from lo on. -/
namespace K7
open PySem PySem.Spec PyProof.Rows L2
def dk (lo : Int) : List Int → List (Key × V)
  | [] => []
  | n :: r => (.inl lo, .int n) :: dk (lo + 1) r
theorem dk_len : ∀ (lo : Int) (vl : List Int), (dk lo vl).length = vl.length
  | _, [] => rfl
  | lo, n :: r => by
    show (dk (lo + 1) r).length + 1 = _
    rw [dk_len (lo + 1) r, List.length_cons]
theorem dk_map : ∀ (vl : List Int) (lo : Int), dk lo vl = (List.range vl.length).map fun (t : Nat) => ((.inl (lo + t) : Key), V.int (vl.getD t 0))
  | [], _ => rfl
  | n :: r, lo => by
    show (.inl lo, V.int n) :: dk (lo + 1) r = _
    rw [dk_map r (lo + 1), List.length_cons, List.range_succ_eq_map, List.map_cons, List.map_map]
    congr 1
    · simp
    · refine List.map_congr_left fun t _ => ?_
      show ((.inl (lo + 1 + t) : Key), V.int (r.getD t 0)) = (.inl (lo + ((t + 1 : Nat) : Int)), V.int ((n :: r).getD (t + 1) 0))
      rw [show lo + ((t + 1 : Nat) : Int) = lo + 1 + t by omega]
      rfl
theorem dk_val : ∀ (vl : List Int) (lo i : Int) (t : Nat), i = lo + t → t < vl.length → valV (dk lo vl) (.inl i) = some (.int (vl.getD t 0))
  | [], _, _, t, _, h => absurd h (Nat.not_lt_zero _)
  | n :: r, lo, i, 0, e, _ => by
    have : i = lo := by omega
    subst this
    exact valV_pos rfl
  | n :: r, lo, i, t + 1, e, h => by
    show valV ((.inl lo, V.int n) :: dk (lo + 1) r) _ = _
    rw [valV_neg (fun z => by
      have : lo = i := Sum.inl.inj z
      omega), dk_val r (lo + 1) i t (by omega) (by simpa using h)]
    rfl
theorem dk_non : ∀ (vl : List Int) (lo i : Int), (i < lo ∨ lo + vl.length ≤ i) → valV (dk lo vl) (.inl i) = none
  | [], _, _, _ => rfl
  | n :: r, lo, i, h => by
    rw [List.length_cons] at h
    show valV ((.inl lo, V.int n) :: dk (lo + 1) r) _ = _
    rw [valV_neg (fun z => by
      have : lo = i := Sum.inl.inj z
      omega), dk_non r (lo + 1) i (by omega)]
theorem cons2 {α : Type} {a b : α} {l m : List α} (h : a = b) (k : l = m) : a :: l = b :: m := by rw [h, k]
theorem dk_set : ∀ (vl : List Int) (lo i : Int) (t : Nat) (m : Int), i = lo + t → t < vl.length → ((dk lo vl).map fun kv => if kv.1 = (.inl i : Key) then (kv.1, V.int m) else kv) = dk lo (vl.set t m)
  | [], _, _, t, _, _, h => absurd h (Nat.not_lt_zero _)
  | n :: r, lo, i, 0, m, e, _ => by
    have : i = lo := by omega
    subst this
    refine cons2 (if_pos rfl) ?_
    have : ∀ (vl : List Int) (lo' : Int), i < lo' → ((dk lo' vl).map fun kv => if kv.1 = (.inl i : Key) then (kv.1, V.int m) else kv) = dk lo' vl := by
      intro vl
      induction vl with
      | nil => intro lo' _; rfl
      | cons a b ih =>
        intro lo' hl
        refine cons2 (if_neg fun z => by
          have : lo' = i := Sum.inl.inj z
          omega) ?_
        exact ih (lo' + 1) (by omega)
    exact this r (i + 1) (by omega)
  | n :: r, lo, i, t + 1, m, e, h => by
    refine cons2 (if_neg fun z => by
      have : lo = i := Sum.inl.inj z
      omega) ?_
    exact dk_set r (lo + 1) i t m (by omega) (by simpa using h)
theorem dk_put {vl : List Int} {lo i : Int} {t : Nat} {m : Int} (e : i = lo + t) (h : t < vl.length) : putK (dk lo vl) (.inl i) (.int m) = dk lo (vl.set t m) := by
  unfold putK
  rw [valV_any, dk_val vl lo i t e h]
  exact (if_pos rfl).trans (dk_set vl lo i t m e h)
theorem dk_app : ∀ (a : List Int) (lo : Int) (b : List Int), dk lo (a ++ b) = dk lo a ++ dk (lo + a.length) b
  | [], lo, b => by simp [dk]
  | n :: r, lo, b => by
    show _ :: dk (lo + 1) (r ++ b) = _ :: _
    rw [dk_app r (lo + 1) b]
    show _ = (.inl lo, V.int n) :: (dk (lo + 1) r ++ dk (lo + ((n :: r).length : Nat)) b)
    rw [List.length_cons, show lo + ((r.length + 1 : Nat) : Int) = lo + 1 + r.length by omega]
theorem dk_merge : ∀ (b a : List Int) (lo : Int), mergeK (dk lo a) (dk (lo + a.length) b) = dk lo (a ++ b)
  | [], a, lo => by
    rw [List.append_nil]
    rfl
  | n :: r, a, lo => by
    show mergeK (putK (dk lo a) (.inl (lo + a.length)) (.int n)) (dk (lo + a.length + 1) r) = _
    have e : putK (dk lo a) (.inl (lo + a.length)) (.int n) = dk lo (a ++ [n]) := by
      unfold putK
      rw [valV_any, dk_non a lo _ (.inr (Int.le_refl _)), dk_app]
      exact if_neg fun z => nomatch z
    rw [e, show lo + a.length + 1 = lo + ((a ++ [n]).length : Nat) by rw [List.length_append, List.length_singleton]; omega, dk_merge r (a ++ [n]) lo, List.append_assoc]
    rfl
theorem dk_merge0 (lo : Int) (b : List Int) : mergeK [] (dk lo b) = dk lo b := by
  have := dk_merge b [] lo
  show mergeK (dk lo []) (dk lo b) = _
  simpa using this
theorem each_refs {K : PySem.W.Frag} {H : Hp} : ∀ {xs : List V} {kvs : List (Key × V)}, Each (fun v (kv : Key × V) => IsT H v [kV kv.1, kv.2]) xs kvs → ∃ ps : List Addr, xs = ps.map V.ref ∧ Paired (fun p kv => SqT K H p [kV kv.1, kv.2]) ps kvs
  | [], [], _ => ⟨[], rfl, .nil⟩
  | [], _ :: _, h => by have := h.1; simp at this
  | _ :: _, [], h => by have := h.1; simp at this
  | x :: r, kv :: s, h => by
    obtain ⟨p, hp, e⟩ := h.2 0 x kv rfl rfl
    obtain ⟨ps, e2, q⟩ := each_refs (xs := r) (kvs := s) ⟨by have := h.1; simpa using this, fun i y d a b => h.2 (i + 1) y d a b⟩
    exact ⟨p :: ps, by rw [hp, e2]; rfl, .cons (SqT.of e) q⟩
theorem Ex.lock {H H' : Hp} {d : Addr} {u : HO} {od : Obj} (h : H d = some u) (n : ∀ ps, u ≠ .tbl ps) (e : Ex (upd H d (.frz od u)) H') : Ex H (upd H' d u) := fun a o ha => by
  by_cases hd : a = d
  · rw [hd] at ha ⊢
    rw [h] at ha
    cases ha
    rw [upd_same]
    exact ⟨fun _ => rfl, fun ps z => absurd z (n ps)⟩
  · rw [upd_ne hd]
    exact e a o (by rw [upd_ne hd]; exact ha)
end K7

set_option Elab.async false
set_option linter.all false
set_option maxRecDepth 100000
set_option maxHeartbeats 4000000
namespace K7
open PySem PySem.Spec PyProof.Rows L2
variable {P : Program} {w : World} {K : PySem.W.Frag} {mg : Str → Option Value} {base : Heap}
/-! the law's own map of a class -/
def swp (vl : List Int) (t : Nat) : List Int := (vl.set t (vl.getD (t + 1) 0)).set (t + 1) (vl.getD t 0)
def wst (lo : Int) (r : Rg) (x : Int) (vl : List Int) (t : Nat) : List Int :=
  if ((lo + t) * r.2 + x).fmod r.1 = 0 then (if vl.getD t 0 < vl.getD (t + 1) 0 then swp vl t else vl) else vl
def wring (lo : Int) (m : Nat) (vl : List Int) (q : Rg × Int) : List Int := (List.range m).foldl (wst lo q.1 q.2) vl
def wm0 (lo : Int) (m : Nat) (d g : Int) : List Int := (List.range (m + 1)).map fun (t : Nat) => lo + t + d - g
def wmap (rs : List Rg) (ps : List Int) (d : Int) (k : Nat) : List Int :=
  (rs.zip ps).reverse.foldl (wring (1 - (k : Int) - rs.length) (2 * rs.length + k - 1)) (wm0 (1 - (k : Int) - rs.length) (2 * rs.length + k - 1) d rs.length)
def wres (rs : List Rg) (ps : List Int) (d : Int) (k : Nat) : List Int := (List.range k).map fun (t : Nat) => (wmap rs ps d k).getD (rs.length + t) 0
theorem swp_len (vl : List Int) (t : Nat) : (swp vl t).length = vl.length := by
  unfold swp
  simp
theorem wst_len (lo : Int) (r : Rg) (x : Int) (vl : List Int) (t : Nat) : (wst lo r x vl t).length = vl.length := by
  unfold wst
  split
  · split
    · exact swp_len _ _
    · rfl
  · rfl
theorem fold_len {α : Type} {f : List Int → α → List Int} (h : ∀ v a, (f v a).length = v.length) : ∀ (l : List α) (vl : List Int), (l.foldl f vl).length = vl.length
  | [], _ => rfl
  | a :: r, vl => by rw [List.foldl_cons, fold_len h r, h]
theorem wring_len (lo : Int) (m : Nat) (vl : List Int) (q : Rg × Int) : (wring lo m vl q).length = vl.length := fold_len (fun v a => wst_len _ _ _ _ _) _ _
def sp_L_map : Sp := fun vs H Q _ => ∃ v u rs ps d k, vs = [v, .int d, u, .int (1 - (k : Nat)), .int 0] ∧ IsC H v rs ∧ okC rs ∧ 2 ≤ k ∧ k ≤ 60 ∧ IsT H u (iv ps) ∧ ps.length = rs.length ∧
  Ret (fun z H' => ∃ a, z = .ref a ∧ H' a = some (.dK (dk (1 - (k : Nat)) (wres rs ps d k)))) H Q
theorem sc_L_map : FnScope ["_law_chain", "_law_total", "_law_x", "_law_first", "_law_last", "_law_size", "_law_values", "_law_i", "_law_j", "_law_n", "_law_s"] ["_law_chain", "_law_total", "_law_x", "_law_first", "_law_last"] (defScope s_L_map) := ⟨rfl, rfl, rfl, by decide +kernel, rfl, by decide +kernel, by decide +kernel⟩
theorem h_L_map (T : Top K mg) : Has P w K mg base "_law_map" 1 ["_law_chain", "_law_total", "_law_x", "_law_first", "_law_last"] sp_L_map := by
  refine has_mk T 39 rfl rfl sc_L_map (fun _ _ _ _ _ _ us hl => match us, hl with | [_, _, _, _, _], _ => rfl) ?len fun f cdv A outer s H vs Q E hr h => ?main
  case len =>
    rintro vs H Q E ⟨v, u, rs, ps, d, k, rfl, _⟩
    rfl
  obtain ⟨v, u, rs, ps, d, k, rfl, hC, okc, k2, k60, hU, hpl, q⟩ := h
  obtain ⟨xs, ⟨p, rfl, hp⟩, he⟩ := id hC
  obtain ⟨pp, rfl, hpp⟩ := id hU
  have hxl := he.1
  obtain ⟨c1, c2, c3⟩ := okc
  refine ⟨_, (pss_cons (ps_set (i := 5) sc_L_map.nd rfl (by first | exact Or.inl rfl | exact Or.inr rfl) (pe_callB call_len_seq (by rfl) T.m_len PySem.boot_len (pa_cons (pv 0) pa_nil))) (pss_cons (ps_set (i := 6) sc_L_map.nd rfl (by first | exact Or.inl rfl | exact Or.inr rfl) (pe_callTy (call_dictP rfl) (by rfl) T.m_dict (by decide +kernel) (pa_cons (pe_lc rfl sc_L_map.nd (pi_range2 (by rfl) T.m_range (pa_cons (pe_op op_sub (pv 3) (pv 5)) (pa_cons (pe_op op_add (pe_op op_add (pv 4) (pv 5)) pe_int) pa_nil))) (blkOk_by (own := [("_law_i", 7)]) (N := ["_law_chain", "_law_total", "_law_x", "_law_first", "_law_last", "_law_size", "_law_values", "_law_i", "_law_j", "_law_n", "_law_s"]) (sc := (defScope s_L_map)) (by decide +kernel)) (fun _ _ _ _ _ => (pg_name (i := 7) sc_L_map.nd rfl (by first | exact Or.inl rfl | exact Or.inr rfl))) (fun _ _ _ _ _ => pts_nil) (fun _ _ _ _ _ => (pe_tup (pa_cons (pv 7) (pa_cons (pe_op op_sub (pe_op op_add (pv 7) (pv 1)) (pv 5)) pa_nil))))) pa_nil))) (pss_cons (ps_for PassesOwn.never rfl (pi_range3 (by rfl) T.m_range (pa_cons (pe_op op_sub (pv 5) pe_int) (pa_cons (pe_un un_neg pe_int) (pa_cons (pe_un un_neg pe_int) pa_nil)))) (pg_name (i := 8) sc_L_map.nd rfl (by first | exact Or.inl rfl | exact Or.inr rfl)) (pss_cons (ps_asg (pe_ix ix_tup (pv 0) (pv 8) (fun _ _ => rfl)) (pg_tup rfl (pgs_cons (pg_name (i := 9) sc_L_map.nd rfl (by first | exact Or.inl rfl | exact Or.inr rfl)) (pgs_cons (pg_name (i := 10) sc_L_map.nd rfl (by first | exact Or.inl rfl | exact Or.inr rfl)) pgs_nil)))) (pss_one (ps_for PassesOwn.never rfl (pi_range2 (by rfl) T.m_range (pa_cons (pe_op op_sub (pv 3) (pv 5)) (pa_cons (pe_op op_add (pv 4) (pv 5)) pa_nil))) (pg_name (i := 7) sc_L_map.nd rfl (by first | exact Or.inl rfl | exact Or.inr rfl)) (pss_one (ps_if (PW.pt (pw_and (pt_cmpR op_eq (pe_op op_modN (pe_op op_add (pe_op op_mul (pv 7) (pv 10)) (pe_ix ix_tup (pv 2) (pv 8) (fun _ _ => rfl))) (pv 9)) pe_int (nomark _)) (pw_and1 (pt_cmpR op_lt (pe_dget (hu_of hr) (pv 6) (pv 7) (fun _ _ => rfl)) (pe_dget (hu_of hr) (pv 6) (pe_op op_add (pv 7) pe_int) (fun _ _ => rfl)) (nomark _))))) (pss_one (ps_asg (pe_tup (pa_cons (pe_dget (hu_of hr) (pv 6) (pe_op op_add (pv 7) pe_int) (fun _ _ => rfl)) (pa_cons (pe_dget (hu_of hr) (pv 6) (pv 7) (fun _ _ => rfl)) pa_nil))) (pg_tup rfl (pgs_cons (pg_sub (pv 6) (pv 7) (set_dict (hu_of hr))) (pgs_cons (pg_sub (pv 6) (pe_op op_add (pv 7) pe_int) (set_dict (hu_of hr))) pgs_nil))))) pss_nil)))))) (pss_one (ps_ret (pe_callTy (call_dictP rfl) (by rfl) T.m_dict (by decide +kernel) (pa_cons (pe_lc rfl sc_L_map.nd (pi_range2 (by rfl) T.m_range (pa_cons (pv 3) (pa_cons (pe_op op_add (pv 4) pe_int) pa_nil))) (blkOk_by (own := [("_law_i", 7)]) (N := ["_law_chain", "_law_total", "_law_x", "_law_first", "_law_last", "_law_size", "_law_values", "_law_i", "_law_j", "_law_n", "_law_s"]) (sc := (defScope s_L_map)) (by decide +kernel)) (fun _ _ _ _ _ => (pg_name (i := 7) sc_L_map.nd rfl (by first | exact Or.inl rfl | exact Or.inr rfl))) (fun _ _ _ _ _ => pts_nil) (fun _ _ _ _ _ => (pe_tup (pa_cons (pv 7) (pa_cons (pe_dget (hu_of hr) (pv 6) (pv 7) (fun _ _ => rfl)) pa_nil))))) pa_nil))))))), ?_⟩
  refine ⟨_, rfl, p, _, rfl, .inr (SqT.of hp), ?_⟩
  rw [hxl]
  refine ⟨_, rfl, _, rfl, _, _, rfl, rfl, _, rfl, _, rfl, _, _, rfl, rfl, _, _, rfl, rfl, _, _, rfl, ⟨by omega, by omega, by omega, by omega⟩, ?_⟩
  rw [show ((0 : Int) + (rs.length : Int) + 1 - (1 - (k : Int) - (rs.length : Int))).toNat = 2 * rs.length + k - 1 + 1 by omega]
  refine lc_all (walk_range (lo := 1 - (k : Int) - rs.length) (n := 2 * rs.length + k - 1 + 1)) (by omega) (fun _ _ => trivial) (fun H v (kv : Key × V) => IsT H v [kV kv.1, kv.2]) (fun _ _ _ _ t => IsT.tm t) (fun (i : Nat) => ((.inl (1 - (k : Int) - rs.length + i) : Key), V.int (1 - (k : Int) - rs.length + i + d - rs.length))) (gm1 _) ?_ ?_
  · rintro i x H4 H5 hi e5 ⟨rfl, rfl⟩ S hS
    refine ⟨rfl, _, rfl, _, rfl, _, rfl, _, _, rfl, rfl, _, rfl, _, _, rfl, rfl, by show 2 ≤ sizeLine; decide, fun t nt => ?_⟩
    exact hS _ _ (Ex.new nt) ⟨t, rfl, upd_same⟩
  intro D0 H2 ys nD e2 hD0 hE
  obtain ⟨prs, rfl, hpr⟩ := each_refs (K := K) hE
  refine ⟨D0, prs, _, rfl, SqL.of hD0, hpr, fun D nDD => ?_⟩
  have ekv : ((List.range (2 * rs.length + k - 1 + 1)).map fun (i : Nat) => ((.inl (1 - (k : Int) - rs.length + i) : Key), V.int (1 - (k : Int) - rs.length + i + d - rs.length))) = dk (1 - (k : Int) - rs.length) (wm0 (1 - (k : Int) - rs.length) (2 * rs.length + k - 1) d rs.length) := by
    rw [dk_map]
    unfold wm0
    rw [List.length_map, List.length_range]
    refine List.map_congr_left fun i hi => ?_
    have hi' := List.mem_range.mp hi
    rw [List.getD_eq_getElem?_getD, List.getElem?_map, List.getElem?_range hi']
    rfl
  rw [ekv, dk_merge0]
  have nDH : H D = none := fresh_back e2 nDD
  have e3 := e2.trans (Ex.new (o := .dK (dk (1 - (k : Int) - rs.length) (wm0 (1 - (k : Int) - rs.length) (2 * rs.length + k - 1) d rs.length))) nDD)
  have l0 : (wm0 (1 - (k : Int) - rs.length) (2 * rs.length + k - 1) d rs.length).length = 2 * rs.length + k - 1 + 1 := by
    unfold wm0
    rw [List.length_map, List.length_range]
  have zl : (rs.zip ps).reverse.length = rs.length := by rw [List.length_reverse, List.length_zip, hpl, Nat.min_self]
  refine ⟨_, rfl, _, _, rfl, rfl, _, rfl, _, rfl, (rs.length : Int) - 1, -1, -1, _, rfl, RgC.neg (by omega) (by omega) (by decide) (by decide), ?_⟩
  rw [show ((rs.length : Int) - 1 - (-1)).toNat = rs.length by omega]
  refine for_it (walk_rangeC (lo := (rs.length : Int) - 1) (c := -1) (n := rs.length)) (fun i σ H' => ∃ b7 b8 b9 b10, σ = [some (.ref p), some (.int d), some (.ref pp), some (.int (1 - (k : Nat))), some (.int 0), some (.int (rs.length : Nat)), some (.ref D), b7, b8, b9, b10] ∧ Ex H H' ∧
    H' D = some (.dK (dk (1 - (k : Int) - rs.length) (((rs.zip ps).reverse.take i).foldl (wring (1 - (k : Int) - rs.length) (2 * rs.length + k - 1)) (wm0 (1 - (k : Int) - rs.length) (2 * rs.length + k - 1) d rs.length))))) ⟨_, _, _, _, rfl, e3, upd_same⟩ (fun _ _ _ _ _ => trivial) ?_ ?_
  · rintro i x σ H4 H5 hi ⟨b7, b8, b9, b10, rfl, e4, hD⟩ ⟨rfl, rfl⟩
    have hj : rs.length - 1 - i < rs.length := by omega
    obtain ⟨r, hr⟩ : ∃ r, rs[rs.length - 1 - i]? = some r := ⟨_, List.getElem?_eq_getElem hj⟩
    obtain ⟨y, hy⟩ : ∃ y, ps[rs.length - 1 - i]? = some y := ⟨_, List.getElem?_eq_getElem (by omega)⟩
    have hq : (rs.zip ps).reverse[i]? = some (r, y) := by
      rw [List.getElem?_reverse (by rw [List.length_reverse] at zl; omega), List.getElem?_zip_eq_some]
      rw [List.length_reverse] at zl
      rw [zl]
      exact ⟨hr, hy⟩
    have estep : ((rs.zip ps).reverse.take (i + 1)).foldl (wring (1 - (k : Int) - rs.length) (2 * rs.length + k - 1)) (wm0 (1 - (k : Int) - rs.length) (2 * rs.length + k - 1) d rs.length) = wring (1 - (k : Int) - rs.length) (2 * rs.length + k - 1) (((rs.zip ps).reverse.take i).foldl (wring (1 - (k : Int) - rs.length) (2 * rs.length + k - 1)) (wm0 (1 - (k : Int) - rs.length) (2 * rs.length + k - 1) d rs.length)) (r, y) := by
      rw [List.take_succ, hq, List.foldl_append]
      rfl
    rw [estep]
    have hvl : (((rs.zip ps).reverse.take i).foldl (wring (1 - (k : Int) - rs.length) (2 * rs.length + k - 1)) (wm0 (1 - (k : Int) - rs.length) (2 * rs.length + k - 1) d rs.length)).length = 2 * rs.length + k - 1 + 1 := by
      rw [fold_len (fun v a => wring_len _ _ v a), l0]
    generalize ((rs.zip ps).reverse.take i).foldl (wring (1 - (k : Int) - rs.length) (2 * rs.length + k - 1)) (wm0 (1 - (k : Int) - rs.length) (2 * rs.length + k - 1) d rs.length) = vl at hD hvl ⊢
    obtain ⟨xr, hxr, hR⟩ := he.at hr
    obtain ⟨aT, rfl, haT⟩ := hR.mono e4
    obtain ⟨o1, o2, o3, o4⟩ := c3 r (List.mem_of_getElem? hr)
    have ej : (rs.length : Int) - 1 + (i : Nat) * -1 = ((rs.length - 1 - i : Nat) : Int) := by omega
    show gName 8 (V.int ((rs.length : Int) - 1 + (i : Nat) * -1)) _ _ _
    rw [ej]
    have hp4 := e4.tup hp
    have hpp4 := e4.tup hpp
    refine ⟨_, rfl, _, rfl, p, _, _, _, rfl, rfl, SqT.of hp4, atI_nat hxr, aT, _, rfl, SqT.of haT, rfl, _, _, rfl, _, _, rfl, rfl, ?_⟩
    refine ⟨_, rfl, _, rfl, _, _, rfl, rfl, _, rfl, _, rfl, _, _, rfl, rfl, _, _, rfl, ⟨by omega, by omega, by omega, by omega⟩, ?_⟩
    rw [show ((0 : Int) + (rs.length : Int) - (1 - (k : Int) - (rs.length : Int))).toNat = 2 * rs.length + k - 1 by omega]
    refine for_it (walk_range (lo := 1 - (k : Int) - rs.length) (n := 2 * rs.length + k - 1)) (fun t σ H' => ∃ b7, σ = [some (.ref p), some (.int d), some (.ref pp), some (.int (1 - (k : Nat))), some (.int 0), some (.int (rs.length : Nat)), some (.ref D), b7, some (.int ((rs.length - 1 - i : Nat) : Int)), some (.int r.1), some (.int r.2)] ∧ Ex H H' ∧
      H' D = some (.dK (dk (1 - (k : Int) - rs.length) ((List.range t).foldl (wst (1 - (k : Int) - rs.length) r y) vl)))) ⟨_, rfl, e4, hD⟩ (fun _ _ _ _ _ => trivial) ?_ ?_
    · rintro t x σ H6 H7 ht ⟨b7, rfl, e6, hD6⟩ ⟨rfl, rfl⟩
      have es2 : (List.range (t + 1)).foldl (wst (1 - (k : Int) - rs.length) r y) vl = wst (1 - (k : Int) - rs.length) r y ((List.range t).foldl (wst (1 - (k : Int) - rs.length) r y) vl) t := by
        rw [List.range_succ, List.foldl_append]
        rfl
      rw [es2]
      have hvl2 : ((List.range t).foldl (wst (1 - (k : Int) - rs.length) r y) vl).length = 2 * rs.length + k - 1 + 1 := by
        rw [fold_len (fun v a => wst_len _ _ _ v a), hvl]
      generalize (List.range t).foldl (wst (1 - (k : Int) - rs.length) r y) vl = wl at hD6 hvl2 ⊢
      have hpp6 := e6.tup hpp
      have g0 := dk_val wl (1 - (k : Int) - rs.length) (1 - (k : Int) - rs.length + t) t rfl (by omega)
      have g1 := dk_val wl (1 - (k : Int) - rs.length) (1 - (k : Int) - rs.length + t + 1) (t + 1) (by omega) (by omega)
      refine ⟨_, rfl, _, rfl, _, _, rfl, rfl, .inr ⟨by omega, by omega⟩, _, rfl, _, rfl, pp, _, _, _, rfl, rfl, SqT.of hpp6, atI_nat (at_iv hy), _, _, rfl, rfl, _, rfl, _, _, rfl, rfl, by omega, rfl, _, rfl, ite2 (fun c => ?_) fun c => ?_⟩
      · have hc : ((1 - (k : Int) - rs.length + t) * r.2 + y).fmod r.1 = 0 := V.int.inj (of_decide_eq_true c)
        refine ⟨_, rfl, _, rfl, D, _, rfl, .inl ⟨_, .inl (1 - (k : Int) - rs.length + t), .inl hD6, rfl, g0.symm⟩, _, rfl, _, rfl, _, _, rfl, rfl, D, _, rfl, .inl ⟨_, .inl (1 - (k : Int) - rs.length + t + 1), .inl hD6, rfl, g1.symm⟩, _, _, rfl, rfl, _, rfl, ite2 (fun c2 => ?_) fun c2 => ?_⟩
        · have hc2 : wl.getD t 0 < wl.getD (t + 1) 0 := of_decide_eq_true c2
          refine ⟨_, rfl, _, rfl, _, _, rfl, rfl, D, _, rfl, .inl ⟨_, .inl (1 - (k : Int) - rs.length + t + 1), .inl hD6, rfl, g1.symm⟩, _, rfl, _, rfl, D, _, rfl, .inl ⟨_, .inl (1 - (k : Int) - rs.length + t), .inl hD6, rfl, g0.symm⟩, by show 2 ≤ sizeLine; decide, fun T2 nT2 => ?_⟩
          have e7 := e6.trans (Ex.new (o := .tup [.int (wl.getD (t + 1) 0), .int (wl.getD t 0)]) nT2)
          have hD7 : (upd H7 T2 (.tup [.int (wl.getD (t + 1) 0), .int (wl.getD t 0)])) D = some (.dK (dk (1 - (k : Int) - rs.length) wl)) := by
            rw [upd_ne (ne_of_none hD6 nT2), hD6]
          have zl1 : (dk (1 - (k : Int) - rs.length) wl).length < sizeLine := szl _ (by rw [dk_len]; omega)
          refine ⟨T2, _, rfl, SqT.of upd_same, rfl, _, _, rfl, _, rfl, _, rfl, D, _, rfl, .inl ⟨_, .inl (1 - (k : Int) - rs.length + t), hD7, rfl, zl1, rfl⟩, _, _, rfl, _, rfl, _, rfl, _, _, rfl, rfl, D, _, rfl, .inl ⟨_, .inl (1 - (k : Int) - rs.length + t + 1), upd_same, rfl, ?_, rfl⟩, rfl, ?_⟩
          · rw [dk_put (t := t) rfl (by omega), dk_len, List.length_set]
            exact szl _ (by omega)
          rw [upd_upd, dk_put (t := t) rfl (by omega), dk_put (t := t + 1) (by omega) (by rw [List.length_set]; omega)]
          refine ⟨_, rfl, e7.mut nDH, ?_⟩
          rw [upd_same]
          unfold wst swp
          rw [if_pos hc, if_pos hc2]
        · have hc2 : ¬ wl.getD t 0 < wl.getD (t + 1) 0 := fun z => c2 (decide_eq_true z)
          refine ⟨_, rfl, e6, ?_⟩
          rw [hD6]
          unfold wst
          rw [if_pos hc, if_neg hc2]
      · have hc : ¬ ((1 - (k : Int) - rs.length + t) * r.2 + y).fmod r.1 = 0 := fun z => c (decide_eq_true (congrArg V.int z))
        refine iteF ⟨_, rfl, e6, ?_⟩
        rw [hD6]
        unfold wst
        rw [if_neg hc]
    · rintro σ H6 ⟨b7, rfl, e6, hD6⟩
      exact ⟨_, _, _, _, rfl, e6, hD6⟩
  · rintro σ H4 ⟨b7, b8, b9, b10, rfl, e4, hD⟩
    rw [List.take_of_length_le (by rw [zl]; exact Nat.le_refl _)] at hD
    have hml : ((rs.zip ps).reverse.foldl (wring (1 - (k : Int) - rs.length) (2 * rs.length + k - 1)) (wm0 (1 - (k : Int) - rs.length) (2 * rs.length + k - 1) d rs.length)).length = 2 * rs.length + k - 1 + 1 := by
      rw [fold_len (fun v a => wring_len _ _ v a), l0]
    refine ⟨_, rfl, _, rfl, _, _, rfl, rfl, _, _, rfl, ⟨by omega, by omega, by omega, by omega⟩, ?_⟩
    rw [show ((0 : Int) + 1 - (1 - (k : Int))).toNat = k by omega]
    refine lc_all (walk_range (lo := 1 - (k : Int)) (n := k)) (by omega) (fun _ _ => trivial) (fun H v (kv : Key × V) => IsT H v [kV kv.1, kv.2]) (fun _ _ _ _ t => IsT.tm t) (fun (i : Nat) => ((.inl (1 - (k : Int) + i) : Key), V.int ((wmap rs ps d k).getD (rs.length + i) 0))) (gm1 _) ?_ ?_
    · rintro i x H5 H6 hi e5 ⟨rfl, rfl⟩ S hS
      have g := dk_val _ (1 - (k : Int) - rs.length) (1 - (k : Int) + i) (rs.length + i) (by omega) (show rs.length + i < _ by rw [hml]; omega)
      have hD5 := e5.dK hD
      refine ⟨rfl, _, rfl, _, rfl, _, rfl, D, _, rfl, .inl ⟨_, .inl (1 - (k : Int) + i), .inl hD5, rfl, g.symm⟩, by show 2 ≤ sizeLine; decide, fun t nt => ?_⟩
      exact hS _ _ (Ex.new nt) ⟨t, rfl, upd_same⟩
    intro D1 H5 zs nD1 e5 hD1 hE1
    obtain ⟨prs2, rfl, hpr2⟩ := each_refs (K := K) hE1
    refine ⟨D1, prs2, _, rfl, SqL.of hD1, hpr2, fun D2 nD2 => ?_⟩
    have ekv2 : ((List.range k).map fun (i : Nat) => ((.inl (1 - (k : Int) + i) : Key), V.int ((wmap rs ps d k).getD (rs.length + i) 0))) = dk (1 - (k : Int)) (wres rs ps d k) := by
      rw [dk_map]
      unfold wres
      rw [List.length_map, List.length_range]
      refine List.map_congr_left fun i hi => ?_
      have hi' := List.mem_range.mp hi
      rw [show (List.map (fun t => (wmap rs ps d k).getD (rs.length + t) 0) (List.range k)).getD i 0 = (wmap rs ps d k).getD (rs.length + i) 0 by
        rw [List.getD_eq_getElem?_getD, List.getElem?_map, List.getElem?_range hi']
        rfl]
    rw [ekv2, dk_merge0]
    exact q _ _ ((e4.trans e5).trans (Ex.new nD2)) ⟨D2, rfl, upd_same⟩
/-- the law's levels -/
def wlevs (rs : List Rg) (ps : List Int) (d : Int) (k : Nat) : List Int := isort ((wres rs ps d k).map fun n => n.fdiv (k : Int))
def sp_L_levels : Sp := fun vs H Q _ => ∃ v u rs ps d k, vs = [v, .int d, u] ∧ IsC H v rs ∧ okC rs ∧ (∀ r ∈ rs, ordR r = (k : Nat)) ∧ 2 ≤ k ∧ k ≤ 60 ∧ IsT H u (iv ps) ∧ ps.length = rs.length ∧
  Ret (fun z H' => IsL H' z (iv (wlevs rs ps d k))) H Q
theorem sc_L_levels : FnScope ["_law_chain", "_law_total", "_law_x", "_law_k", "_law_values", "_law_i"] ["_law_chain", "_law_total", "_law_x"] (defScope s_L_levels) := ⟨rfl, rfl, rfl, by decide +kernel, rfl, by decide +kernel, by decide +kernel⟩
theorem h_L_levels (T : Top K mg) (h_L_order : Has P w K mg base "_law_order" 2 ["_law_ring"] sp_L_order) (h_L_map : Has P w K mg base "_law_map" 1 ["_law_chain", "_law_total", "_law_x", "_law_first", "_law_last"] sp_L_map) : Has P w K mg base "_law_levels" 3 ["_law_chain", "_law_total", "_law_x"] sp_L_levels := by
  refine has_mk T 40 rfl rfl sc_L_levels (fun _ _ _ _ _ _ us hl => match us, hl with | [_, _, _], _ => rfl) ?len fun f cdv A outer s H vs Q E hr h => ?main
  case len =>
    rintro vs H Q E ⟨v, u, rs, ps, d, k, rfl, _⟩
    rfl
  obtain ⟨v, u, rs, ps, d, k, rfl, hC, okc, hk, k2, k60, hU, hpl, q⟩ := h
  obtain ⟨xs, ⟨p, rfl, hp⟩, he⟩ := id hC
  refine ⟨_, (pss_cons (ps_set (i := 3) sc_L_levels.nd rfl (by first | exact Or.inl rfl | exact Or.inr rfl) (pe_has h_L_order (hr.mono (by decide)) (pa_cons (pe_ix ix_tup (pv 0) pe_int (fun _ _ => rfl)) pa_nil))) (pss_cons (ps_set (i := 4) sc_L_levels.nd rfl (by first | exact Or.inl rfl | exact Or.inr rfl) (pe_has h_L_map (hr.mono (by decide)) (pa_cons (pv 0) (pa_cons (pv 1) (pa_cons (pv 2) (pa_cons (pe_op op_sub pe_int (pv 3)) (pa_cons pe_int pa_nil))))))) (pss_one (ps_ret (pe_callB cr_sortedI (by rfl) T.m_sorted (by decide +kernel) (pa_cons (pe_lock (pe_lc rfl sc_L_levels.nd (pi_keys (pv 4)) (blkOk_by (own := [("_law_i", 5)]) (N := ["_law_chain", "_law_total", "_law_x", "_law_k", "_law_values", "_law_i"]) (sc := (defScope s_L_levels)) (by decide +kernel)) (fun _ _ _ _ _ => (pg_name (i := 5) sc_L_levels.nd rfl (by first | exact Or.inl rfl | exact Or.inr rfl))) (fun _ _ _ _ _ => pts_nil) (fun _ _ _ _ _ => (pe_op op_fdivN (pe_dget (hu_of hr) (pv 4) (pv 5) (fun _ _ => rfl)) (pv 3))))) pa_nil)))))), ?_⟩
  have c1 := okc.1
  obtain ⟨r, hr0⟩ : ∃ r, rs[0]? = some r := ⟨rs[0], List.getElem?_eq_getElem (by omega)⟩
  obtain ⟨x, hx, hR⟩ := he.at hr0
  refine ⟨_, rfl, p, _, _, x, rfl, rfl, SqT.of hp, atI_nat (j := 0) hx, _, r, rfl, hR, okc.2.2 r (List.mem_of_getElem? hr0), ?_⟩
  rintro _ H1 e1 rfl
  rw [hk r (List.mem_of_getElem? hr0)]
  refine ⟨_, rfl, _, rfl, _, rfl, _, rfl, _, _, rfl, rfl, _, _, rs, ps, d, k, rfl, hC.mono e1, okc, k2, k60, hU.mono e1, hpl, ?_⟩
  rintro _ H2 e2 ⟨a, rfl, ha⟩
  refine ⟨a, _, ha, trivial, fun od => ?_⟩
  have hz : (upd H2 a (.frz od (.dK (dk (1 - (k : Int)) (wres rs ps d k))))) a = some (.frz od (.dK (dk (1 - (k : Int)) (wres rs ps d k)))) := upd_same
  have wl : (wres rs ps d k).length = k := by
    unfold wres
    rw [List.length_map, List.length_range]
  refine ⟨_, rfl, a, od, rfl, .inl ⟨_, hz, ?_⟩⟩
  refine lc_all (walk_keys (d := a) (o := od) (kvs := dk (1 - (k : Int)) (wres rs ps d k))) (by rw [dk_len]; omega) (fun H' e => e.frz hz) (fun _ v (d : Int) => v = .int d) (fun _ _ _ _ _ h => h) (fun (i : Nat) => ((wres rs ps d k).getD i 0).fdiv (k : Int)) (gm1 _) ?_ ?_
  · rintro i x H4 H5 hi e5 ⟨rfl, key, val, hkv, rfl⟩ S hS
    have hi2 : i < (wres rs ps d k).length := by rw [← dk_len (1 - (k : Int))]; exact hi
    rw [dk_map, List.getElem?_map, List.getElem?_range hi2] at hkv
    cases hkv
    have g := dk_val (wres rs ps d k) (1 - (k : Int)) (1 - (k : Int) + i) i rfl hi2
    refine ⟨rfl, _, rfl, _, rfl, a, _, rfl, .inl ⟨_, .inl (1 - (k : Int) + i), .inr ⟨od, e5.frz hz⟩, rfl, g.symm⟩, _, rfl, _, _, rfl, rfl, ⟨by omega, by omega⟩, hS _ _ (Ex.refl _) rfl⟩
  intro D H5 zs nD e5 hD hE
  refine ⟨e5.frz hz, ?_⟩
  have ez : zs = iv ((wres rs ps d k).map fun n => n.fdiv (k : Int)) := by
    rw [each_int hE, dk_len, ← iv_len, iv_map (wres rs ps d k) fun n => n.fdiv (k : Int)]
  have hDa : D ≠ a := fun z => by
    rw [z, upd_same] at nD
    cases nD
  rw [ez] at hD
  refine ⟨D, _, rfl, SqL.of (show (upd H5 a _) D = _ by rw [upd_ne hDa, hD]), fun ns' p' hperm hord np' => ?_⟩
  have e6 : Ex H2 (upd H5 a (.dK (dk (1 - (k : Int)) (wres rs ps d k)))) := Ex.lock ha (fun _ z => nomatch z) e5
  refine q _ _ ((e1.trans e2).trans (e6.trans (Ex.new np'))) ⟨p', rfl, ?_⟩
  rw [upd_same, sort_is hperm hord]
  rfl
end K7

set_option Elab.async false
set_option linter.all false
set_option maxRecDepth 100000
set_option maxHeartbeats 4000000
namespace K7
open PySem PySem.Spec PyProof.Rows L2
variable {P : Program} {w : World} {K : PySem.W.Frag} {mg : Str → Option Value} {base : Heap}
def rCatT : R2 := fun x y H Q => ∃ xs ys, IsT H x xs ∧ IsT H y ys ∧ xs.length + ys.length ≤ sizeLine ∧ ∀ z H', Ex H H' → IsT H' z (xs ++ ys) → Q z H'
theorem op_catT {X : Cx} : OpR X (binaryOp .Add) rCatT := fun pins s σ H x y v u Q I rx ry ⟨xs, ys, ⟨a, ea, ha⟩, ⟨b, eb, hb⟩, hz, q⟩ =>
  op_catA pins s σ H x y v u Q I rx ry ⟨a, b, xs, ys, ea, eb, SqT.of ha, SqT.of hb, hz, fun e => q _ _ (Ex.refl _) ⟨b, rfl, by rw [e]; exact hb⟩, fun _ e => q _ _ (Ex.refl _) ⟨a, rfl, by rw [e, List.append_nil]; exact ha⟩, fun _ _ p np => q _ _ (Ex.new np) ⟨p, rfl, upd_same⟩⟩
/-! the law's distance -/
def ladd (ns : List Int) (i : Nat) : Int := ((ns.take i).map fun m => mx0 (ns.getD i 0 - m - 1)).sum
def ldTo (ns : List Int) (i : Nat) : Int := ((List.range i).map (ladd ns)).sum
def ldist (ns : List Int) : Int := ldTo ns ns.length
def sp_L_distance : Sp := fun vs H Q _ => ∃ v ns, vs = [v] ∧ IsT H v (iv ns) ∧ ns.length ≤ 60 ∧ RetV (.int (ldist ns)) H Q
theorem sc_L_distance : FnScope ["_law_levels_here", "_law_found", "_law_at", "_law_one"] ["_law_levels_here"] (defScope s_L_distance) := ⟨rfl, rfl, rfl, by decide +kernel, rfl, by decide +kernel, by decide +kernel⟩
theorem h_L_distance (T : Top K mg) : Has P w K mg base "_law_distance" 1 ["_law_levels_here"] sp_L_distance := by
  refine has_mk T 41 rfl rfl sc_L_distance (fun _ _ _ _ _ _ us hl => match us, hl with | [_], _ => rfl) ?len fun f cdv A outer s H vs Q E hr h => ?main
  case len =>
    rintro vs H Q E ⟨v, ns, rfl, _⟩
    rfl
  obtain ⟨v, ns, rfl, ⟨p, rfl, hp⟩, hl, q⟩ := h
  refine ⟨_, (pss_cons (ps_set (i := 1) sc_L_distance.nd rfl (by first | exact Or.inl rfl | exact Or.inr rfl) pe_int) (pss_cons (ps_for PassesOwn.never rfl (pi_range1 (by rfl) T.m_range (pa_cons (pe_callB call_len_seq (by rfl) T.m_len PySem.boot_len (pa_cons (pv 0) pa_nil)) pa_nil)) (pg_name (i := 2) sc_L_distance.nd rfl (by first | exact Or.inl rfl | exact Or.inr rfl)) (pss_one (ps_set (i := 1) sc_L_distance.nd rfl (by first | exact Or.inl rfl | exact Or.inr rfl) (pe_op op_add (pv 1) (pe_callB (cr_sum rfl) (by rfl) T.m_sum (by decide +kernel) (pa_cons (pe_lc rfl sc_L_distance.nd (pi_tup (pe_slice sl_tupA (pv 0) po_none (po_some (pv 2)))) (blkOk_by (own := [("_law_one", 3)]) (N := ["_law_levels_here", "_law_found", "_law_at", "_law_one"]) (sc := (defScope s_L_distance)) (by decide +kernel)) (fun _ _ _ _ _ => (pg_name (i := 3) sc_L_distance.nd rfl (by first | exact Or.inl rfl | exact Or.inr rfl))) (fun _ _ _ _ _ => pts_nil) (fun _ _ _ _ _ => (pe_callB (call_max2 rfl) (by rfl) T.m_max (by decide +kernel) (pa_cons pe_int (pa_cons (pe_op op_sub (pe_op op_sub (pe_ix ix_T (pv 0) (pv 2) (fun _ _ => rfl)) (pv 3)) pe_int) pa_nil))))) pa_nil)))))) (pss_one (ps_ret (pv 1))))), ?_⟩
  refine ⟨_, rfl, p, _, rfl, .inr (SqT.of hp), _, rfl, by omega, by rw [iv_len]; omega, ?_⟩
  rw [iv_len, Int.toNat_natCast]
  refine for_it (walk_range (lo := 0) (n := ns.length)) (fun i σ H' => ∃ b c, σ = [some (.ref p), some (.int (ldTo ns i)), b, c] ∧ Ex H H') ⟨none, none, rfl, Ex.refl _⟩ (fun _ _ _ _ _ => trivial) ?_ ?_
  · rintro i x σ H1 H2 hi ⟨b, c, rfl, e1⟩ ⟨rfl, rfl⟩
    have hp1 := e1.tup hp
    have e0 : (0 : Int) + (i : Nat) = (i : Nat) := Int.zero_add _
    show gName 2 (V.int (0 + (i : Nat))) _ _ _
    rw [e0]
    refine ⟨_, rfl, _, rfl, _, rfl, i, rfl, p, _, rfl, SqT.of hp1, fun w => absurd w.2 ?_, fun _ t nt => ?_⟩
    · rw [sIx_k _ _ (i := (i : Int)) i rfl, iv_len]
      omega
    rw [cut_to i rfl, ← List.map_take]
    have e3 := e1.trans (Ex.new (o := .tup (iv (ns.take i))) nt)
    have hp3 := e3.tup hp
    refine ⟨t, rfl, ⟨_, SqT.of upd_same⟩, lc_all (walk_tup (K := K) (xs := iv (ns.take i))) (by rw [iv_len, List.length_take]; omega) (fun H' e => SqT.of (e.tup upd_same)) (fun _ v (d : Int) => v = .int d) (fun _ _ _ _ _ h => h) (fun j => mx0 (ns.getD i 0 - (ns.take i).getD j 0 - 1)) (gm1 _) ?_ ?_⟩
    · rintro j x H3 H4 hj e4 ⟨rfl, hxj⟩ S hS
      obtain ⟨m, hm, rfl⟩ := iv_at hxj
      have hni : (iv ns)[i]? = some (.int (ns.getD i 0)) := by
        rw [List.getElem?_map, List.getElem?_eq_getElem hi, List.getD_eq_getElem?_getD, List.getElem?_eq_getElem hi]
        rfl
      refine ⟨rfl, _, rfl, _, rfl, p, _, _, _, rfl, rfl, e4.tup hp3, atI_nat hni, _, rfl, _, _, rfl, rfl, _, _, rfl, rfl, _, _, rfl, hS _ _ (Ex.refl _) ?_⟩
      rw [getD_at hm]
      rfl
    · intro D H' ys nD e4 hD hE
      have es : ldTo ns (i + 1) = ldTo ns i + ((ns.take i).map fun m => mx0 (ns.getD i 0 - m - 1)).sum := by
        unfold ldTo
        rw [List.range_succ, List.map_append, List.map_singleton, sum_snoc]
        rfl
      refine ⟨D, _, rfl, SqL.of (show H' D = some (.lst (iv ((ns.take i).map fun m => mx0 (ns.getD i 0 - m - 1)))) by rw [hD, each_int hE, iv_map (ns.take i) fun m => mx0 (ns.getD i 0 - m - 1)]), _, _, rfl, rfl, ?_⟩
      rw [es]
      exact ⟨_, _, rfl, e3.trans e4⟩
  · rintro σ H1 ⟨b, c, rfl, e1⟩
    exact ⟨_, rfl, q _ _ e1 rfl⟩
/-! all tuples of places -/
def ext1 (one : List Int) (n : Int) : List (List Int) := (List.range n.toNat).map fun (p : Nat) => one ++ [(p : Int)]
def extT (acc : List (List Int)) (n : Int) : List (List Int) := acc.flatMap fun one => ext1 one n
def allT (rs : List Rg) : List (List Int) := rs.foldl (fun acc r => extT acc r.1) [[]]
theorem allT_len : ∀ (rs : List Rg) (acc : List (List Int)) (n : Nat), (∀ o ∈ acc, o.length = n) → ∀ o ∈ rs.foldl (fun acc r => extT acc r.1) acc, o.length = n + rs.length
  | [], acc, n, h, o, ho => h o ho
  | r :: rs, acc, n, h, o, ho => by
    have := allT_len rs (extT acc r.1) (n + 1) (fun o2 ho2 => by
      obtain ⟨one, h1, h2⟩ := List.mem_flatMap.mp ho2
      obtain ⟨p, _, rfl⟩ := List.mem_map.mp h2
      rw [List.length_append, h one h1]
      rfl) o ho
    rw [this, List.length_cons]
    omega
def IsLT (H : Hp) (v : V) (nss : List (List Int)) : Prop := ∃ xs, IsL H v xs ∧ Each (fun v ns => IsT H v (iv ns)) xs nss
theorem IsLT.mono {H H' : Hp} {v : V} {nss : List (List Int)} (e : Ex H H') (h : IsLT H v nss) : IsLT H' v nss := by
  obtain ⟨xs, a, b⟩ := h
  exact ⟨xs, a.mono e, b.mono fun _ _ r => IsT.mono e r⟩
theorem Each.app {α : Type} {R : V → α → Prop} : ∀ {xs ys : List V} {ds es : List α}, Each R xs ds → Each R ys es → Each R (xs ++ ys) (ds ++ es)
  | [], ys, [], es, _, h => h
  | [], _, _ :: _, _, h, _ => by have := h.1; simp at this
  | _ :: _, _, [], _, h, _ => by have := h.1; simp at this
  | x :: xs, ys, d :: ds, es, h, h2 => Each.cons (h.2 0 x d rfl rfl) (Each.app ⟨by have := h.1; simpa using this, fun i y e a b => h.2 (i + 1) y e a b⟩ h2)
def sp_L_all_tuples : Sp := fun vs H Q _ => ∃ v rs, vs = [v] ∧ IsC H v rs ∧ okC rs ∧ (∀ i ≤ rs.length, (allT (rs.take i)).length ≤ 1000) ∧ Ret (fun z H' => IsLT H' z (allT rs)) H Q
theorem sc_L_all_tuples : FnScope ["_law_chain", "_law_found", "_law_n", "_law_s", "_law_more", "_law_one", "_law_place"] ["_law_chain"] (defScope s_L_all_tuples) := ⟨rfl, rfl, rfl, by decide +kernel, rfl, by decide +kernel, by decide +kernel⟩
theorem h_L_all_tuples (T : Top K mg) : Has P w K mg base "_law_all_tuples" 1 ["_law_chain"] sp_L_all_tuples := by
  refine has_mk T 42 rfl rfl sc_L_all_tuples (fun _ _ _ _ _ _ us hl => match us, hl with | [_], _ => rfl) ?len fun f cdv A outer s H vs Q E hr h => ?main
  case len =>
    rintro vs H Q E ⟨v, rs, rfl, _⟩
    rfl
  obtain ⟨v, rs, rfl, hC, okc, hb, q⟩ := h
  obtain ⟨xs, ⟨p, rfl, hp⟩, he⟩ := id hC
  have hxl := he.1
  obtain ⟨c1, c2, c3⟩ := okc
  refine ⟨_, (pss_cons (ps_set (i := 1) sc_L_all_tuples.nd rfl (by first | exact Or.inl rfl | exact Or.inr rfl) (pe_lst (pa_cons (pe_tup pa_nil) pa_nil))) (pss_cons (ps_for PassesOwn.never rfl (pi_tup (pv 0)) (pg_tup rfl (pgs_cons (pg_name (i := 2) sc_L_all_tuples.nd rfl (by first | exact Or.inl rfl | exact Or.inr rfl)) (pgs_cons (pg_name (i := 3) sc_L_all_tuples.nd rfl (by first | exact Or.inl rfl | exact Or.inr rfl)) pgs_nil))) (pss_cons (ps_set (i := 4) sc_L_all_tuples.nd rfl (by first | exact Or.inl rfl | exact Or.inr rfl) (pe_lst pa_nil)) (pss_cons (ps_for PassesOwn.never rfl (pi_list (pv 1)) (pg_name (i := 5) sc_L_all_tuples.nd rfl (by first | exact Or.inl rfl | exact Or.inr rfl)) (pss_one (ps_expr (pe_bm PySem.F.plainAttrs_list PySem.F.slot_list_extend PySem.F.type_list_extend mt_extend (pv 4) (pa_cons (pe_lc rfl sc_L_all_tuples.nd (pi_range1 (by rfl) T.m_range (pa_cons (pv 2) pa_nil)) (blkOk_by (own := [("_law_place", 6)]) (N := ["_law_chain", "_law_found", "_law_n", "_law_s", "_law_more", "_law_one", "_law_place"]) (sc := (defScope s_L_all_tuples)) (by decide +kernel)) (fun _ _ _ _ _ => (pg_name (i := 6) sc_L_all_tuples.nd rfl (by first | exact Or.inl rfl | exact Or.inr rfl))) (fun _ _ _ _ _ => pts_nil) (fun _ _ _ _ _ => (pe_op op_catT (pv 5) (pe_tup (pa_cons (pv 6) pa_nil))))) pa_nil))))) (pss_one (ps_set (i := 1) sc_L_all_tuples.nd rfl (by first | exact Or.inl rfl | exact Or.inr rfl) (pe_callTy call_list_of (by rfl) T.m_list (by decide +kernel) (pa_cons (pv 4) pa_nil))))))) (pss_one (ps_ret (pv 1))))), ?_⟩
  refine ⟨Nat.zero_le _, fun t0 nt0 => ⟨by show 1 ≤ sizeLine; decide, fun l0 nl0 => ?_⟩⟩
  have e0 : Ex H (upd (upd H t0 (.tup [])) l0 (.lst [.ref t0])) := (Ex.new nt0).trans (Ex.new nl0)
  have h00 : IsLT (upd (upd H t0 (.tup [])) l0 (.lst [.ref t0])) (.ref l0) (allT []) := ⟨[.ref t0], ⟨l0, rfl, upd_same⟩, Each.nil.snoc ⟨t0, rfl, (Ex.new nl0).tup upd_same⟩⟩
  refine ⟨_, rfl, p, rfl, ⟨_, SqT.of (e0.tup hp)⟩, for_it (walk_tup (K := K) (xs := xs)) (fun i σ H' => ∃ u b2 b3 b4 b5 b6, σ = [some (.ref p), some u, b2, b3, b4, b5, b6] ∧ Ex H H' ∧ IsLT H' u (allT (rs.take i))) ⟨_, _, _, _, _, _, rfl, e0, h00⟩ (fun i σ H' hi ⟨_, _, _, _, _, _, _, e, _⟩ => SqT.of (e.tup hp)) ?_ ?_⟩
  · rintro i x σ H1 H2 hi ⟨u, b2, b3, b4, b5, b6, rfl, e1, zs, ⟨l, rfl, hl⟩, hE⟩ ⟨rfl, hx⟩
    obtain ⟨r, hr, hR⟩ := he.at' hx
    obtain ⟨a, rfl, ha⟩ := IsT.mono e1 hR
    obtain ⟨o1, o2, o3, o4⟩ := c3 r (List.mem_of_getElem? hr)
    refine ⟨a, _, rfl, SqT.of ha, rfl, _, _, rfl, _, _, rfl, rfl, ?_⟩
    have estep : allT (rs.take (i + 1)) = extT (allT (rs.take i)) r.1 := by
      unfold allT
      rw [List.take_succ, hr, List.foldl_append]
      rfl
    have hb1 := hb (i + 1) (by rw [← hxl]; exact hi)
    rw [estep] at hb1 ⊢
    have hol : ∀ o ∈ allT (rs.take i), o.length ≤ 100 := fun o ho => by
      have := allT_len (rs.take i) [[]] 0 (by simp) o ho
      rw [List.length_take] at this
      omega
    generalize allT (rs.take i) = acc at hE hb1 hol ⊢
    refine ⟨Nat.zero_le _, fun m nm => ?_⟩
    have e2 : Ex H2 (upd H2 m (.lst [])) := Ex.new nm
    have nmH : H m = none := fresh_back e1 nm
    refine ⟨_, rfl, l, rfl, ⟨_, SqL.of (e2.lst hl)⟩, for_it (walk_list (K := K) (xs := zs)) (fun j σ H' => ∃ b5 b6 ws, σ = [some (.ref p), some (.ref l), some (.int r.1), some (.int r.2), some (.ref m), b5, b6] ∧ Ex H2 H' ∧ H' m = some (.lst ws) ∧ Each (fun v ns => IsT H' v (iv ns)) ws (extT (acc.take j) r.1)) ⟨_, _, [], rfl, e2, upd_same, Each.nil⟩ (fun i σ H' hi ⟨_, _, _, _, e, _⟩ => SqL.of (e.lst hl)) ?_ ?_⟩
    · rintro j x σ H3 H4 hj ⟨b5, b6, ws, rfl, e3, hm, hW⟩ ⟨rfl, hxj⟩
      obtain ⟨one, hone, hT⟩ := hE.at' hxj
      have es2 : extT (acc.take (j + 1)) r.1 = extT (acc.take j) r.1 ++ ext1 one r.1 := by
        unfold extT
        rw [List.take_succ, hone, List.flatMap_append]
        simp
      have hle : (extT (acc.take (j + 1)) r.1).length ≤ (extT acc r.1).length := by
        have : extT acc r.1 = extT (acc.take (j + 1)) r.1 ++ extT (acc.drop (j + 1)) r.1 := by
          unfold extT
          rw [← List.flatMap_append, List.take_append_drop]
        rw [this, List.length_append]
        omega
      rw [es2] at hle ⊢
      rw [List.length_append] at hle
      have hT3 := IsT.mono e3 hT
      refine ⟨_, rfl, .inl ⟨rfl, _, SqL.of hm⟩, _, rfl, _, rfl, by omega, by omega, ?_⟩
      refine lc_all (walk_range (lo := 0) (n := r.1.toNat)) (by omega) (fun _ _ => trivial) (fun H v ns => IsT H v (iv ns)) (fun _ _ _ _ t => IsT.tm t) (fun (p : Nat) => one ++ [(p : Int)]) (gm1 _) ?_ ?_
      · rintro i2 x2 H5 H6 hi2 e5 ⟨rfl, rfl⟩ S hS
        refine ⟨rfl, _, rfl, _, rfl, by show 1 ≤ sizeLine; decide, fun t nt => ?_⟩
        have e6 := Ex.new (o := .tup [.int (0 + (i2 : Nat))]) nt
        refine ⟨iv one, [.int (0 + (i2 : Nat))], hT3.mono (e5.trans e6), ⟨t, rfl, upd_same⟩, sz _ ?_, fun z H7 e7 hz => hS _ _ (e6.trans e7) ?_⟩
        · have := hol one (List.mem_of_getElem? hone)
          rw [iv_len, List.length_singleton]
          omega
        · rw [Int.zero_add] at hz
          show IsT H7 z (List.map V.int (one ++ [(i2 : Int)]))
          rw [List.map_append]
          exact hz
      · intro D H5 ys nD e5 hD hE5
        have hm5 := e5.lst hm
        refine ⟨m, D, ws, ys, rfl, rfl, hm5, hD, ?_, ?_⟩
        · rw [hW.1, hE5.1]
          exact sz _ (by have : (ext1 one r.1).length = ((List.range r.1.toNat).map fun (p : Nat) => one ++ [(p : Int)]).length := rfl; omega)
        have tx : TEx H5 (upd H5 m (.lst (ws ++ ys))) := TEx.lst hm5
        refine ⟨_, _, ws ++ ys, rfl, (e3.trans e5).mut nm, upd_same, ?_⟩
        exact (hW.mono fun v ns h => IsT.tm tx (IsT.mono e5 h)).app (hE5.mono fun v ns h => IsT.tm tx h)
    · rintro σ H3 ⟨b5, b6, ws, rfl, e3, hm, hW⟩
      rw [List.take_of_length_le (by rw [← hE.1]; exact Nat.le_refl _)] at hW
      refine ⟨_, rfl, m, _, rfl, .inl (SqL.of hm), fun l2 nl2 => ?_⟩
      have e4 := Ex.new (o := .lst ws) nl2
      exact ⟨_, _, _, _, _, _, rfl, (e1.trans e3).trans e4, ws, ⟨l2, rfl, upd_same⟩, hW.mono fun v ns h => IsT.mono e4 h⟩
  · rintro σ H1 ⟨u, b2, b3, b4, b5, b6, rfl, e1, hL⟩
    rw [List.take_of_length_le (by omega)] at hL
    exact ⟨_, rfl, q _ _ e1 hL⟩
/-! levels that are drawn -/
def drawn (k : Nat) (ns : List Int) : Prop := ns.length = k ∧ ns.Pairwise (· ≤ ·) ∧ ∃ low : Int, -4 ≤ low ∧ low ≤ 2 ∧ ∀ n ∈ ns, low ≤ n ∧ n ≤ low + 7
def sp_L_drawn_levels : Sp := fun vs H Q _ => ∃ (v : V) (k : Nat), vs = [v, .int (k : Nat)] ∧ Dice H v ∧ 2 ≤ k ∧ k ≤ 7 ∧ Ret (fun z H' => ∃ ns, IsT H' z (iv ns) ∧ drawn k ns) H Q
theorem sc_L_drawn_levels : FnScope ["_law_dice_here", "_law_k", "_law_low", "_law_found", "_law_turn"] ["_law_dice_here", "_law_k"] (defScope s_L_drawn_levels) := ⟨rfl, rfl, rfl, by decide +kernel, rfl, by decide +kernel, by decide +kernel⟩
theorem h_L_drawn_levels (T : Top K mg) (h_L_roll : Has P w K mg base "_law_roll" 1 ["_law_dice_here", "_law_total"] sp_L_roll) (h_L_one_of : Has P w K mg base "_law_one_of" 2 ["_law_dice_here", "_law_items"] (sp_L_one_of K)) : Has P w K mg base "_law_drawn_levels" 3 ["_law_dice_here", "_law_k"] sp_L_drawn_levels := by
  refine has_mk T 43 rfl rfl sc_L_drawn_levels (fun _ _ _ _ _ _ us hl => match us, hl with | [_, _], _ => rfl) ?len fun f cdv A outer s H vs Q E hr h => ?main
  case len =>
    rintro vs H Q E ⟨v, k, rfl, _⟩
    rfl
  obtain ⟨v, k, rfl, hd, k2, k7, q⟩ := h
  refine ⟨_, (pss_cons (ps_par (i := 2) (j := 3) (by rfl) sc_L_drawn_levels.nd rfl rfl (by decide) rfl rfl (pa_cons (pe_op op_sub (pe_has h_L_roll (hr.mono (by decide)) (pa_cons (pv 0) (pa_cons pe_int pa_nil))) pe_int) (pa_cons (pe_lst pa_nil) pa_nil)) (by rfl)) (pss_cons (ps_for PassesOwn.never rfl (pi_range1 (by rfl) T.m_range (pa_cons (pv 1) pa_nil)) (pg_name (i := 4) sc_L_drawn_levels.nd rfl (by first | exact Or.inl rfl | exact Or.inr rfl)) (pss_one (ps_expr (pe_bm PySem.F.plainAttrs_list PySem.F.slot_list_append PySem.F.type_list_append mt_append (pv 3) (pa_cons (pe_op op_add (pe_op op_add (pv 2) (pe_has h_L_one_of (hr.mono (by decide)) (pa_cons (pv 0) (pa_cons (pe_lst (pa_cons pe_int (pa_cons pe_int (pa_cons pe_int (pa_cons pe_int (pa_cons pe_int (pa_cons pe_int pa_nil))))))) pa_nil)))) (pe_has h_L_one_of (hr.mono (by decide)) (pa_cons (pv 0) (pa_cons (pe_lst (pa_cons pe_int (pa_cons pe_int (pa_cons pe_int (pa_cons pe_int (pa_cons pe_int pa_nil)))))) pa_nil)))) pa_nil))))) (pss_one (ps_ret (pe_callTy call_tuple_of (by rfl) T.m_tuple (by decide +kernel) (pa_cons (pe_callB cr_sortedI (by rfl) T.m_sorted (by decide +kernel) (pa_cons (pv 3) pa_nil)) pa_nil)))))), ?_⟩
  refine ⟨_, rfl, v, 7, rfl, hd, by decide, by decide, fun r r0 r1 => ?_⟩
  refine ⟨_, _, rfl, rfl, Nat.zero_le _, fun l nl => ⟨_, _, rfl, ?_⟩⟩
  have e0 : Ex H (upd H l (.lst [])) := Ex.new nl
  refine ⟨_, rfl, k, rfl, by omega, by omega, ?_⟩
  rw [Int.toNat_natCast]
  refine for_it (walk_range (lo := 0) (n := k)) (fun i σ H' => ∃ b ns, σ = [some v, some (.int k), some (.int (r - 4)), some (.ref l), b] ∧ Ex H H' ∧ H' l = some (.lst (iv ns)) ∧ ns.length = i ∧ ∀ n ∈ ns, r - 4 ≤ n ∧ n ≤ r - 4 + 7) ⟨none, [], rfl, e0, upd_same, rfl, fun n hn => nomatch hn⟩ (fun _ _ _ _ _ => trivial) ?_ ?_
  · rintro i x σ H1 H2 hi ⟨b, ns, rfl, e1, hl, hn, hns⟩ ⟨rfl, rfl⟩
    refine ⟨_, rfl, .inl ⟨rfl, _, SqL.of hl⟩, ?_⟩
    refine ⟨_, rfl, _, rfl, by show 6 ≤ sizeLine; decide, fun a na => ?_⟩
    have e2 := Ex.new (o := .lst [.int 0, .int 0, .int 1, .int 1, .int 2, .int 3]) na
    refine ⟨v, a, _, rfl, hd.mono (e1.trans e2), SqL.of upd_same, by decide, by decide, fun x hx => ?_⟩
    have hx2 : ∃ y : Int, x = .int y ∧ 0 ≤ y ∧ y ≤ 3 := by
      simp only [List.mem_cons, List.not_mem_nil, or_false] at hx
      rcases hx with rfl | rfl | rfl | rfl | rfl | rfl <;> exact ⟨_, rfl, by decide, by decide⟩
    obtain ⟨y, rfl, y0, y1⟩ := hx2
    refine ⟨_, _, rfl, rfl, _, rfl, by show 5 ≤ sizeLine; decide, fun a2 na2 => ?_⟩
    have e3 := Ex.new (o := .lst [.int 0, .int 0, .int 0, .int 0, .int 4]) na2
    refine ⟨v, a2, _, rfl, hd.mono ((e1.trans e2).trans e3), SqL.of upd_same, by decide, by decide, fun x hx => ?_⟩
    have hx3 : ∃ y : Int, x = .int y ∧ 0 ≤ y ∧ y ≤ 4 := by
      simp only [List.mem_cons, List.not_mem_nil, or_false] at hx
      rcases hx with rfl | rfl | rfl | rfl | rfl <;> exact ⟨_, rfl, by decide, by decide⟩
    obtain ⟨y', rfl, y0', y1'⟩ := hx3
    refine ⟨_, _, rfl, rfl, l, _, _, rfl, rfl, (e2.trans e3).lst hl, szl _ (by rw [iv_len]; omega), ?_⟩
    refine ⟨_, ns ++ [r - 4 + y + y'], rfl, ((e1.trans e2).trans e3).mut nl, ?_, by rw [List.length_append, hn]; rfl, fun n hn => ?_⟩
    · rw [upd_same]
      show _ = some (HO.lst (List.map V.int _))
      rw [List.map_append]
      rfl
    · rcases List.mem_append.mp hn with hn | hn
      · exact hns n hn
      · rw [List.mem_singleton.mp hn]
        omega
  · rintro σ H1 ⟨b, ns, rfl, e1, hl, hn, hns⟩
    refine ⟨_, rfl, l, ns, rfl, SqL.of hl, fun ns' p' hperm hord np' => ?_⟩
    have e2 := Ex.new (o := .lst (iv ns')) np'
    refine ⟨p', _, rfl, .inl ⟨SqL.of upd_same, fun t nt => ?_⟩⟩
    exact q _ _ ((e1.trans e2).trans (Ex.new nt)) ⟨ns', ⟨t, rfl, upd_same⟩, by rw [hperm.length_eq, hn], hord, r - 4, by omega, by omega, fun n hn => hns n (hperm.mem_iff.mp hn)⟩
end K7

set_option Elab.async false
set_option linter.all false
set_option maxRecDepth 100000
set_option maxHeartbeats 4000000
/-! sorted(d), d a dict whose keys are tuples of numbers. -/
namespace K7
open PySem PySem.Spec PyProof.Rows L2
def encT (b : Addr × List Int) : PyData := pdT b.2
theorem dataLe_T : PySem.W.dataLe false encT = fun p q => decide (p.2 ≤ q.2) := PySem.W.dataLe_rows (fun b : Addr × List Int => b.2)
/-- what sorted gives -/
def rSDT : List V → Hp → VK → Prop := fun vs H Q => ∃ (d : Addr) (kvs : List (List Key × V)) (nss : List (List Int)), vs = [.ref d] ∧ H d = some (.dT kvs) ∧ kvs.map (·.1) = nss.map (fun ns => ns.map Sum.inl) ∧ (∀ ns ∈ nss, ns ≠ []) ∧ nss.length ≤ 1000 ∧
  ∀ (p : Addr) (ts : List V) (nss' : List (List Int)), H p = none → nss'.Perm nss → nss'.Pairwise (· ≤ ·) → Each (fun v ns => IsT H v (iv ns)) ts nss' → Q (.ref p) (upd H p (.lst ts))
theorem keys_each {H : Hp} : ∀ {kvs : List (List Key × V)} {as : List Addr} {nss : List (List Int)}, IsKeys H kvs as → kvs.map (·.1) = nss.map (fun ns => ns.map Sum.inl) →
    PySem.W.EachIs (fun (v : Value) (b : Addr × List Int) => v = .ref b.1 ∧ H b.1 = some (.tup (iv b.2))) (as.map Value.ref) (as.zip nss) ∧ (as.zip nss).map (·.2) = nss
  | _, _, [], .nil, _ => ⟨.nil, rfl⟩
  | _, _, _ :: _, .nil, h => nomatch h
  | _, _, [], .cons _ _, h => nomatch h
  | _, _, ns :: r, .cons h1 t, h => by
    rw [List.map_cons, List.map_cons] at h
    obtain ⟨e1, e2⟩ := List.cons.inj h
    obtain ⟨q1, q2⟩ := keys_each t e2
    have e1' : _ = ns.map (Sum.inl (β := Str)) := e1
    refine ⟨.cons ⟨rfl, ?_⟩ q1, ?_⟩
    · show H _ = some (.tup (iv ns))
      rw [h1, e1', List.map_map]
      rfl
    · rw [List.zip_cons_cons, List.map_cons, q2]
theorem eachIs_mem {α β : Type} {R : α → β → Prop} {Z : β → Prop} : ∀ {as : List α} {bs : List β}, PySem.W.EachIs R as bs → (∀ b ∈ bs, Z b) → PySem.W.EachIs (fun a b => R a b ∧ Z b) as bs
  | _, _, .nil, _ => .nil
  | _, _, .cons h t, z => .cons ⟨h, z _ List.mem_cons_self⟩ (eachIs_mem t fun b hb => z b (List.mem_cons_of_mem _ hb))
theorem eachIs_out {H : Hp} : ∀ {out : List Value} {bs : List (Addr × List Int)}, PySem.W.EachIs (fun (v : Value) (b : Addr × List Int) => v = .ref b.1 ∧ H b.1 = some (.tup (iv b.2))) out bs → Vals (bs.map fun b => V.ref b.1) out ∧ Each (fun v ns => IsT H v (iv ns)) (bs.map fun b => V.ref b.1) (bs.map (·.2))
  | _, _, .nil => ⟨.nil, Each.nil⟩
  | _, _, .cons ⟨e, h⟩ t => by
    obtain ⟨q1, q2⟩ := eachIs_out t
    subst e
    exact ⟨.cons rfl q1, Each.cons ⟨_, rfl, h⟩ q2⟩
section
variable {X : Cx}
theorem cr_sortedDT (hcalm : X.calm = true) (hu : X.A.units + 64 < cLine) : CallR X (.builtin "sorted") rSDT := by
  intro pins s σ H vs us Q I r h
  obtain ⟨d, kvs, nss, rfl, hd, hks, hne, hl, q⟩ := h
  obtain ⟨u, rfl, rx⟩ := r.one
  cases rx
  obtain ⟨z, hs, ks, pr, o, es, ep, ho, hx, hdt, he, hn⟩ := (show ObjOk X.prog X.w H s.heap d (.dT kvs) from I.hok d _ hd)
  have l1 : es.size = ks.length := size_of_entries he
  have l2 : kvs.length = ks.length := Paired.length pr
  have l3 : kvs.length = nss.length := by
    have := congrArg List.length hks
    rwa [List.length_map, List.length_map] at this
  refine Calls.call_function_entry PyProof.Rows.kind_sorted PyProof.Rows.plain_sorted PyProof.Rows.entry_sorted (PyProof.Rows.args_sorted1 _) ?_
  unfold Builtin.«sorted»
  refine wpAny_bind (m := checkCount "sorted" 1 1 _) (wpAny_pure ?_)
  refine wpAny_bind (PySem.W.kdu_collect (A := X.A.in1) (kdl_raw hs hx hdt) (I.ok.hd hcalm) ho (by omega) fun h' tk acc' hk it => ?_)
  have ea : acc'.toList = ks.map fun x => Value.ref x.2.1 := by
    have hl : acc'.toList.length = ks.length := by rw [Array.length_toList, it.1]; exact l1
    apply List.ext_getElem?
    intro j
    rw [List.getElem?_map]
    cases hj : acc'.toList[j]? with
    | none =>
      have h1 := List.getElem?_eq_none_iff.mp hj
      rw [List.getElem?_eq_none (by omega)]
      all_goals rfl
    | some v =>
      obtain ⟨en, hen, hv⟩ := it.2 j v (by rw [← Array.getElem?_toList]; exact hj)
      have qe := entry_at he j
      rw [hen] at qe
      cases hb : ks[j]? with
      | none =>
        rw [hb] at qe
        exact nomatch (show some en = none from qe)
      | some b =>
        rw [hb] at qe
        have e2 : en = entryOfKey (tupleKind (mixKind X.prog X.w)) b := Option.some.inj qe
        rw [hv, e2]
        all_goals rfl
  have I1 : Inv X pins σ H { s with heap := h', toks := tk } := I.kept hk
  obtain ⟨ek, em⟩ := keys_each (isKeys_of pr) hks
  have ea2 : acc'.toList = (ks.map fun x => x.2.1).map Value.ref := by rw [ea, List.map_map]; rfl
  generalize (ks.map fun x => x.2.1).zip nss = bs at ek em
  rw [← ea2] at ek
  have bl : bs.length = nss.length := by
    have := congrArg List.length em
    rwa [List.length_map] at this
  have bne : ∀ b ∈ bs, b.2 ≠ [] := fun b hb => hne _ (by rw [← em]; exact List.mem_map.mpr ⟨b, hb, rfl⟩)
  have al : acc'.toList.length = bs.length := ek.length
  refine wpAny_bind (wpAny_newList ?_ (by rw [al, sizeLine_eq]; omega))
  have hoL : (h'.push (seqObj "list" acc'.toList.toArray 0)).get? h'.objs.size = some (seqObj "list" acc'.toList.toArray 0) := Heap.get?_push_size _ rfl
  show wpAny _ _ _ _ _ { s with heap := h'.push (seqObj "list" acc'.toList.toArray 0), toks := tk }
  have er : PySem.W.EachIs (fun v (b : Addr × List Int) => ∃ as, Reads (h'.push (seqObj "list" acc'.toList.toArray 0)) v (encT b) as ∧ h'.objs.size ∉ as) acc'.toList bs := ek.mono fun v b ⟨e, hb⟩ => by
    obtain ⟨_, its, rv, ob, hob, hc, c, hdd⟩ := I1.hok b.1 _ hb
    subst e
    exact ⟨[], .tuple (Heap.get?_push_of_some _ hob) hc hdd (by rw [List.toList_toArray]; exact reads_ints rv), by simp⟩
  have hal : PySem.W.AllAlike (bs.map encT) := fun d hd d' hd' => by
    obtain ⟨b, _, rfl⟩ := List.mem_map.mp hd
    obtain ⟨b', _, rfl⟩ := List.mem_map.mp hd'
    exact PySem.W.alike_ints b.2 b'.2
  have hsb : PySem.W.Sortable (bs.map encT) := .inl fun d hd => by
    obtain ⟨b, hb, rfl⟩ := List.mem_map.mp hd
    obtain ⟨x, t, e⟩ := List.exists_cons_of_ne_nil (bne b hb)
    exact ⟨.int x, t.map PyData.int, by unfold encT pdT; rw [e]; rfl⟩
  refine wpAny_bind (wpAny_holding (PySem.W.list_sort_data (s := { s with heap := h'.push (seqObj "list" acc'.toList.toArray 0), toks := tk }) hoL ek er hal hsb (by rw [bl, sizeLine_eq]; omega) (fun b hb => ?_) fun out ol oe => ?_))
  · have e1 : (encT b).depth = 1 := by
      show PyData.depthAll (b.2.map .int) + 1 = 1
      rw [PySem.W.depth_ints]
    rw [e1]
    have : X.A.in1.units = X.A.units + 1 := rfl
    omega
  · obtain ⟨c', hc'⟩ := PyProof.Rows.sortedHeap_at (vs := acc'.toList) (out := out.toArray) hoL
    rw [dataLe_T] at oe
    have pm := List.mergeSort_perm bs (fun p q : Addr × List Int => decide (p.2 ≤ q.2))
    have pw := List.pairwise_mergeSort (le := fun p q : Addr × List Int => decide (p.2 ≤ q.2)) (fun a b c h1 h2 => decide_eq_true (List.le_trans (of_decide_eq_true h1) (of_decide_eq_true h2))) (fun a b => by
      rw [Bool.or_eq_true]
      exact (List.le_total a.2 b.2).imp decide_eq_true decide_eq_true) bs
    generalize bs.mergeSort (fun p q : Addr × List Int => decide (p.2 ≤ q.2)) = cs at oe pm pw
    obtain ⟨q1, q2⟩ := eachIs_out oe
    have hz : (cs.map fun b => V.ref b.1).length ≤ sizeLine := by
      rw [List.length_map, pm.length_eq, bl]
      exact sz _ (by omega)
    refine wpAny_pure ⟨_, rfl, .ref h'.objs.size, upd H h'.objs.size (.lst (cs.map fun b => V.ref b.1)), I1.laid (t' := tk) (fun b u e => ?_) (Nat.le_refl _)
      (show ObjOk X.prog X.w _ _ _ (.lst (cs.map fun b => V.ref b.1)) from ⟨hz, out, c', q1, hc'⟩), rfl, q _ _ (cs.map (·.2)) (I1.hok.fresh (Nat.le_refl _)) (by rw [← em]; exact pm.map _) ?_ q2⟩
    · have hb : b < h'.objs.size := Heap.lt_size e
      rw [PyProof.Rows.sortedHeap_old (Nat.ne_of_lt hb) (by rw [size_push']; exact Nat.lt_succ_of_lt hb)]
      exact Heap.get?_push_of_some _ e
    · rw [List.pairwise_map]
      exact pw.imp fun h => of_decide_eq_true h
end
end K7

set_option Elab.async false
set_option linter.all false
set_option maxRecDepth 100000
set_option maxHeartbeats 4000000
namespace K7
open PySem PySem.Spec PyProof.Rows L2
variable {P : Program} {w : World} {K : PySem.W.Frag} {mg : Str → Option Value} {base : Heap}
/-- the plain facts that the first half of the law needs -/
structure Facts : Prop where
  far : ∀ ns, ldist ns = dist ns
  lev : ∀ (k : Nat) (rs : List Rg) (ps : List Int) (d : Int), 2 ≤ k → k ≤ 7 → (∀ r ∈ rs, rOk k 2 r) → rs.length ≤ 12 → ps.length = rs.length → wlevs rs ps d k = levs rs ps d k
  cls : ∀ (k : Nat) (ns : List Int) (rs : List Rg), 2 ≤ k → k ≤ 7 → drawn k ns → (∀ r ∈ rs, rOk k 2 r) → 1 ≤ rs.length → rs.length ≤ 9 → dist ns ≤ rs.length →
    inP rs (plc rs (rsts ns rs.length)) = true ∧ levs rs (plc rs (rsts ns rs.length)) (ns.sum + rs.length + ns.length - 1) k = ns
theorem drawn.ok {k : Nat} {ns : List Int} (h : drawn k ns) (k2 : 2 ≤ k) (k7 : k ≤ 7) : okL ns := by
  obtain ⟨h1, h2, low, l1, l2, h3⟩ := h
  exact ⟨by omega, by omega, fun n hn => by have := h3 n hn; omega, h2⟩
theorem okC_of {k : Nat} {rs : List Rg} (h : ∀ r ∈ rs, rOk k 2 r) (k2 : 2 ≤ k) (k7 : k ≤ 7) (l1 : 1 ≤ rs.length) (l2 : rs.length ≤ 12) : okC rs ∧ ∀ r ∈ rs, ordR r = k :=
  ⟨⟨l1, l2, fun r hr => ((h r hr).ok (by omega) (by omega) (by decide)).1⟩, fun r hr => ((h r hr).ok (by omega) (by omega) (by decide)).2⟩
theorem sum_abs (B : Int) : ∀ l : List Int, (∀ x ∈ l, -B ≤ x ∧ x ≤ B) → -(B * l.length) ≤ l.sum ∧ l.sum ≤ B * l.length
  | [], _ => by simp
  | x :: r, h => by
    have h1 := h x List.mem_cons_self
    have h2 := sum_abs B r fun y hy => h y (List.mem_cons_of_mem _ hy)
    rw [List.sum_cons, List.length_cons, show ((r.length + 1 : Nat) : Int) = (r.length : Int) + 1 from rfl, Int.mul_add, Int.mul_one]
    omega
theorem inP_short {rs : List Rg} {ps : List Int} (h : ps.length ≠ rs.length) : inP rs ps = false := by
  unfold inP
  rw [decide_eq_false h]
  rfl
theorem inP_far {rs : List Rg} {ps : List Int} {r : Rg} (l : ps.length = rs.length) (hr : rs[rs.length - 1]? = some r) : inP rs (ps.dropLast ++ [r.1]) = false := by
  have hl : 0 < rs.length := by
    have := (List.getElem?_eq_some_iff.mp hr).1
    omega
  unfold inP
  rw [Bool.and_eq_false_iff]
  refine .inr ?_
  rw [List.all_eq_false]
  refine ⟨_, List.mem_map.mpr ⟨rs.length - 1, List.mem_range.mpr (by omega), rfl⟩, ?_⟩
  have e1 : (ps.dropLast ++ [r.1]).getD (rs.length - 1) 0 = r.1 := by
    rw [List.getD_eq_getElem?_getD, List.getElem?_append_right (by rw [List.length_dropLast]; omega), List.length_dropLast, l, Nat.sub_self]
    rfl
  rw [e1, getD_d hr, show decide (r.1 ≤ r.1 - 1) = false from decide_eq_false (by omega), Bool.and_false]
  exact Bool.false_ne_true
/-- a value of has_levels that is a class with right places -/
def Good (rs : List Rg) (H : Hp) (v : V) : Prop := ∃ (d : Int) (y : V) (ps : List Int), IsT H v [.int d, y] ∧ (if d < 0 then -d else d) < 10 ^ 60 ∧ IsT H y (iv ps) ∧ inP rs ps = true
theorem Good.mono {rs : List Rg} {H H' : Hp} {v : V} (e : Ex H H') (h : Good rs H v) : Good rs H' v := by
  obtain ⟨d, y, ps, a, b, c, f⟩ := h
  exact ⟨d, y, ps, a.mono e, b, c.mono e, f⟩
theorem Asked.mono {rs : List Rg} {ns : List Int} {H H' : Hp} {v : V} {b : Bool} (e : Ex H H') (h : Asked rs ns H v b) : Asked rs ns H' v b := by
  cases h with
  | plain k h n => exact .plain k (h.mono e) n
  | size ys h n => exact .size ys (h.mono e) n
  | degree a b k h ha n => exact .degree a b k (h.mono e) (ha.mono e) n
  | list d b xs h hd hb => exact .list d b xs (h.mono e) hd (hb.mono e)
  | cls d b ps h hd hb => exact .cls d b ps (h.mono e) hd (hb.mono e)
theorem Asked.out {rs : List Rg} {ns : List Int} {H : Hp} {v y : V} {d : Int} {ps : List Int} (h : IsT H v [.int d, y]) (hd : (if d < 0 then -d else d) < 10 ^ 60) (hb : IsT H y (iv ps)) (n : inP rs ps = false) : Asked rs ns H v false := by
  have := Asked.cls (rs := rs) (ns := ns) d y ps h hd hb
  rw [n] at this
  exact this
theorem asked_lst {rs : List Rg} {ns : List Int} {H : Hp} {l : Addr} {xs : List V} (h : H l = some (.lst xs)) : Asked rs ns H (.ref l) false := .plain (.lst xs) ⟨l, rfl, h⟩ rfl
theorem asked_size {rs : List Rg} {ns : List Int} {H : Hp} {l : Addr} {xs : List V} (h : H l = some (.tup xs)) (n : xs.length ≠ 2) : Asked rs ns H (.ref l) false := .size xs ⟨l, rfl, h⟩ n
theorem cut1 {x y : V} : cutV [x, y] none (some 1) = [x] := cut_to (i := 1) 1 rfl
theorem nocut1 {x y : V} : ¬ HT.sIx [x, y].length [x, y].length (some 1) = [x, y].length := by
  rw [sIx_k _ _ (i := 1) 1 rfl]
  show ¬ min 1 2 = 2
  decide
theorem nocut_m1 {ps : List Int} (h : 0 < ps.length) : ¬ HT.sIx (iv ps).length (iv ps).length (some (-1)) = (iv ps).length := by
  show ¬ (if (-1 : Int) < 0 then ((-1 : Int) + ((iv ps).length : Int)).toNat else min (-1 : Int).toNat (iv ps).length) = _
  rw [if_pos (by decide), iv_len]
  omega
theorem cut_iv (ps : List Int) : cutV (iv ps) none (some (-1)) = iv ps.dropLast := by
  rw [cut_m1]
  exact (List.map_dropLast).symm
def sp_L_met_right (K : PySem.W.Frag) : Sp := fun vs H Q _ => ∃ (v u : V) (k : Nat) (ns : List Int), vs = [v, .int (k : Nat), u] ∧ Dice H v ∧ 2 ≤ k ∧ k ≤ 7 ∧ IsT H u (iv ns) ∧ drawn k ns ∧ GxR.TabG H (tL K) ∧ RetV (.bl true) H Q
theorem sc_L_met_right : FnScope ["_law_dice_here", "_law_k", "_law_levels_here", "_law_far", "_law_turn", "_law_rings", "_law_chain", "_law_told", "_law_other", "_law_value", "_law_wrong"] ["_law_dice_here", "_law_k", "_law_levels_here"] (defScope s_L_met_right) := ⟨rfl, rfl, rfl, by decide +kernel, rfl, by decide +kernel, by decide +kernel⟩
theorem h_L_met_right (T : Top K mg) (fa : Facts) (h_L_distance : Has P w K mg base "_law_distance" 1 ["_law_levels_here"] sp_L_distance) (h_L_roll : Has P w K mg base "_law_roll" 1 ["_law_dice_here", "_law_total"] sp_L_roll)
    (h_L_equal_chain : Has P w K mg base "_law_equal_chain" 4 ["_law_dice_here", "_law_rings", "_law_k"] sp_L_equal_chain) (h_can_be_met : Has P w K mg base "can_be_met" 5 ["rings", "levels"] sp_can_be_met)
    (h_class_with_levels : Has P w K mg base "class_with_levels" 8 ["chain", "levels"] sp_class_with_levels) (h_L_levels : Has P w K mg base "_law_levels" 3 ["_law_chain", "_law_total", "_law_x"] sp_L_levels)
    (h_L_tuple : Has P w K mg base "_law_tuple" 2 ["_law_dice_here", "_law_chain"] sp_L_tuple) (h_has_levels : Has P w K mg base "has_levels" 8 ["chain", "levels", "value"] (sp_has_levels K)) (h_distance : Has P w K mg base "distance" 5 ["levels"] sp_distance) :
    Has P w K mg base "_law_met_right" 9 ["_law_dice_here", "_law_k", "_law_levels_here"] (sp_L_met_right K) := by
  refine has_mk T 44 rfl rfl sc_L_met_right (fun _ _ _ _ _ _ us hl => match us, hl with | [_, _, _], _ => rfl) ?len fun f cdv A outer s H vs Q E hr h => ?main
  case len =>
    rintro vs H Q E ⟨v, u, k, ns, rfl, _⟩
    rfl
  obtain ⟨v, u, k, ns, rfl, hd, k2, k7, hU, hdr, hT, q⟩ := h
  have okl := hdr.ok k2 k7
  have nsl : ns.length = k := hdr.1
  refine ⟨_, (pss_cons (ps_set (i := 3) sc_L_met_right.nd rfl (by first | exact Or.inl rfl | exact Or.inr rfl) (pe_has h_L_distance (hr.mono (by decide)) (pa_cons (pv 2) pa_nil))) (pss_cons (ps_for PassesOwn.never rfl (pi_range1 (by rfl) T.m_range (pa_cons pe_int pa_nil)) (pg_name (i := 4) sc_L_met_right.nd rfl (by first | exact Or.inl rfl | exact Or.inr rfl)) (pss_cons (ps_set (i := 5) sc_L_met_right.nd rfl (by first | exact Or.inl rfl | exact Or.inr rfl) (pe_op op_add pe_int (pe_has h_L_roll (hr.mono (by decide)) (pa_cons (pv 0) (pa_cons pe_int pa_nil))))) (pss_cons (ps_set (i := 6) sc_L_met_right.nd rfl (by first | exact Or.inl rfl | exact Or.inr rfl) (pe_has h_L_equal_chain (hr.mono (by decide)) (pa_cons (pv 0) (pa_cons (pv 5) (pa_cons (pv 1) pa_nil))))) (pss_cons (ps_if (pt_cmpR op_ne (pe_has h_can_be_met (hr.mono (by decide)) (pa_cons (pv 5) (pa_cons (pv 2) pa_nil))) (pe_cmpR op_le (pv 3) (pv 5) (nomark _)) (nomark _)) (pss_one (ps_ret pe_bl)) pss_nil) (pss_cons (ps_set (i := 7) sc_L_met_right.nd rfl (by first | exact Or.inl rfl | exact Or.inr rfl) (pe_has h_class_with_levels (hr.mono (by decide)) (pa_cons (pv 6) (pa_cons (pv 2) pa_nil)))) (pss_cons (ps_if (pt_cmpR op_gt (pv 3) (pv 5) (nomark _)) (pss_cons (ps_if (pt_cmpR op_notN (pv 7) pe_non (nomark _)) (pss_one (ps_ret pe_bl)) pss_nil) (pss_one ps_continue)) pss_nil) (pss_cons (ps_if (PW.pt (pw_or (pt_cmpR op_ne (pe_ix ix_tup (pv 7) pe_int (fun _ _ => rfl)) (pe_op op_sub (pe_op op_add (pe_op op_add (pe_callB (cr_sumT rfl) (by rfl) T.m_sum (by decide +kernel) (pa_cons (pv 2) pa_nil)) (pv 5)) (pv 1)) pe_int) (nomark _)) (pw_or1 (pt_cmpR (op_neT hr.units) (pe_callTy call_tuple_of (by rfl) T.m_tuple (by decide +kernel) (pa_cons (pe_has h_L_levels (hr.mono (by decide)) (pa_cons (pv 6) (pa_cons (pe_ix ix_tup (pv 7) pe_int (fun _ _ => rfl)) (pa_cons (pe_ix ix_tup (pv 7) pe_int (fun _ _ => rfl)) pa_nil)))) pa_nil)) (pv 2) (nomark _))))) (pss_one (ps_ret pe_bl)) pss_nil) (pss_cons (ps_set (i := 8) sc_L_met_right.nd rfl (by first | exact Or.inl rfl | exact Or.inr rfl) (pe_tup (pa_cons (pe_ix ix_tup (pv 7) pe_int (fun _ _ => rfl)) (pa_cons (pe_has h_L_tuple (hr.mono (by decide)) (pa_cons (pv 0) (pa_cons (pv 6) pa_nil))) pa_nil)))) (pss_cons (ps_for PassesOwn.never rfl (pi_tup (pe_tup (pa_cons (pv 7) (pa_cons (pv 8) (pa_cons (pe_tup (pa_cons (pe_op op_add (pe_ix ix_tup (pv 7) pe_int (fun _ _ => rfl)) pe_int) (pa_cons (pe_ix ix_tup (pv 7) pe_int (fun _ _ => rfl)) pa_nil))) (pa_cons (pe_tup (pa_cons (pe_op op_sub (pe_ix ix_tup (pv 7) pe_int (fun _ _ => rfl)) (pv 1)) (pa_cons (pe_ix ix_tup (pv 7) pe_int (fun _ _ => rfl)) pa_nil))) pa_nil)))))) (pg_name (i := 9) sc_L_met_right.nd rfl (by first | exact Or.inl rfl | exact Or.inr rfl)) (pss_one (ps_if (pt_cmpR op_ne (pe_has h_has_levels (hr.mono (by decide)) (pa_cons (pv 6) (pa_cons (pv 2) (pa_cons (pv 9) pa_nil)))) (pe_cmpR (op_eqT hr.units) (pe_callTy call_tuple_of (by rfl) T.m_tuple (by decide +kernel) (pa_cons (pe_has h_L_levels (hr.mono (by decide)) (pa_cons (pv 6) (pa_cons (pe_ix ix_tup (pv 9) pe_int (fun _ _ => rfl)) (pa_cons (pe_ix ix_tup (pv 9) pe_int (fun _ _ => rfl)) pa_nil)))) pa_nil)) (pv 2) (nomark _)) (nomark _)) (pss_one (ps_ret pe_bl)) pss_nil))) (pss_cons (ps_set (i := 10) sc_L_met_right.nd rfl (by first | exact Or.inl rfl | exact Or.inr rfl) (pe_lst (pa_cons pe_non (pa_cons (pe_callTy call_list_of (by rfl) T.m_list (by decide +kernel) (pa_cons (pv 7) pa_nil)) (pa_cons (pe_slice sl_tupA (pv 7) po_none (po_some pe_int)) (pa_cons (pe_tup (pa_cons (pe_ix ix_tup (pv 7) pe_int (fun _ _ => rfl)) (pa_cons (pe_ix ix_tup (pv 7) pe_int (fun _ _ => rfl)) pa_nil))) (pa_cons (pe_tup (pa_cons (pe_ix ix_tup (pv 7) pe_int (fun _ _ => rfl)) (pa_cons (pe_callTy call_list_of (by rfl) T.m_list (by decide +kernel) (pa_cons (pe_ix ix_tup (pv 7) pe_int (fun _ _ => rfl)) pa_nil)) pa_nil))) (pa_cons (pe_tup (pa_cons (pe_ix ix_tup (pv 7) pe_int (fun _ _ => rfl)) (pa_cons (pe_slice sl_tupA (pe_ix ix_tup (pv 7) pe_int (fun _ _ => rfl)) po_none (po_some (pe_un un_neg pe_int))) pa_nil))) pa_nil)))))))) (pss_cons (ps_set (i := 10) sc_L_met_right.nd rfl (by first | exact Or.inl rfl | exact Or.inr rfl) (pe_op op_cat (pv 10) (pe_lst (pa_cons (pe_op op_catT (pv 7) (pe_tup (pa_cons pe_int pa_nil))) (pa_cons (pe_tup (pa_cons pe_non (pa_cons (pe_ix ix_tup (pv 7) pe_int (fun _ _ => rfl)) pa_nil))) (pa_cons (pe_tup (pa_cons (pe_ix ix_tup (pv 7) pe_int (fun _ _ => rfl)) (pa_cons (pe_op op_catT (pe_slice sl_tupA (pe_ix ix_tup (pv 7) pe_int (fun _ _ => rfl)) po_none (po_some (pe_un un_neg pe_int))) (pe_tup (pa_cons (pe_ix ix_tup (pe_ix ix_tup (pv 6) (pe_un un_neg pe_int) (fun _ _ => rfl)) pe_int (fun _ _ => rfl)) pa_nil))) pa_nil))) (pa_cons (pe_tup pa_nil) pa_nil))))))) (pss_one (ps_if (pt_cmpR (op_neL hr.units) (pe_lc rfl sc_L_met_right.nd (pi_list (pv 10)) (blkOk_by (own := [("_law_value", 9)]) (N := ["_law_dice_here", "_law_k", "_law_levels_here", "_law_far", "_law_turn", "_law_rings", "_law_chain", "_law_told", "_law_other", "_law_value", "_law_wrong"]) (sc := (defScope s_L_met_right)) (by decide +kernel)) (fun _ _ _ _ _ => (pg_name (i := 9) sc_L_met_right.nd rfl (by first | exact Or.inl rfl | exact Or.inr rfl))) (fun _ _ _ _ _ => (pts_one (pt_val (pe_has h_has_levels (hr.mono (by decide)) (pa_cons (pv 6) (pa_cons (pv 2) (pa_cons (pv 9) pa_nil))))))) (fun _ _ _ _ _ => (pv 9))) (pe_lst pa_nil) (nomark _)) (pss_one (ps_ret pe_bl)) pss_nil))))))))))))) (pss_one (ps_ret (pe_cmpR op_eq (pe_has h_distance (hr.mono (by decide)) (pa_cons (pv 2) pa_nil)) (pv 3) (nomark _)))))), ?_⟩
  refine ⟨_, rfl, u, ns, rfl, hU, by omega, ?_⟩
  rintro _ H1 e1 rfl
  rw [fa.far]
  refine ⟨2, rfl, by decide, by decide, ?_⟩
  refine for_it (walk_range (lo := 0) (n := 2)) (fun i σ H' => ∃ b4 b5 b6 b7 b8 b9 b10, σ = [some v, some (.int k), some u, some (.int (dist ns)), b4, b5, b6, b7, b8, b9, b10] ∧ Ex H H') ⟨none, none, none, none, none, none, none, rfl, e1⟩ (fun _ _ _ _ _ => trivial) ?_ ?_
  · rintro i x σ H2 H3 hi ⟨b4, b5, b6, b7, b8, b9, b10, rfl, e2⟩ ⟨rfl, rfl⟩
    refine ⟨_, rfl, v, 9, rfl, hd.mono e2, by decide, by decide, fun r r0 r1 => ⟨_, _, rfl, rfl, ?_⟩⟩
    refine ⟨_, rfl, _, rfl, _, rfl, v, 1 + r, k, rfl, hd.mono e2, by omega, by omega, by omega, by omega, ?_⟩
    rintro cv H4 e4 ⟨rs, hC, hrl, hrs⟩
    have hg : (1 + r : Int) = (rs.length : Int) := by omega
    rw [show (fun (i j : Int) => V.int (i + j)) 1 r = V.int (rs.length : Int) from congrArg V.int hg]
    have g1 : 1 ≤ rs.length := by omega
    have g9 : rs.length ≤ 9 := by omega
    obtain ⟨okc, hord⟩ := okC_of hrs k2 k7 g1 (by omega)
    have e5 := e2.trans e4
    refine ⟨_, rfl, _, rfl, _, u, ns, rfl, by omega, by omega, hU.mono e5, okl, ?_⟩
    rintro _ H6 e6 rfl
    have e7 := e5.trans e6
    refine ⟨_, rfl, _, rfl, _, _, rfl, rfl, rfl, _, rfl, ?_⟩
    rw [show decide (V.bl (decide (dist ns ≤ (rs.length : Int))) = V.bl (decide (dist ns ≤ (rs.length : Int)))) = true from decide_eq_true rfl]
    refine iteF ?_
    refine ⟨_, rfl, _, rfl, cv, u, rs, ns, rfl, hC.mono e6, okc, hU.mono e7, okl, fun r hr => by rw [hord r hr, nsl], ?_⟩
    rintro told H8 e8 htold
    have e9 := e7.trans e8
    refine ⟨_, rfl, _, rfl, _, _, rfl, rfl, _, rfl, ite2 (fun c => ?_) fun c => ?_⟩
    · have hc : dist ns > (rs.length : Int) := of_decide_eq_true c
      have htold2 : told = .non := by
        have := htold
        rw [if_pos hc] at this
        exact this
      subst htold2
      refine ⟨_, rfl, rfl, _, rfl, iteF ?_⟩
      exact ⟨_, _, _, _, _, _, _, rfl, e9⟩
    have hc : ¬ dist ns > (rs.length : Int) := fun z => c (decide_eq_true z)
    have hcl : IsCl H8 told (ns.sum + rs.length + ns.length - 1) (plc rs (rsts ns rs.length)) := by
      have := htold
      rw [if_neg hc] at this
      exact this
    obtain ⟨hin, hlev⟩ := fa.cls k ns rs k2 k7 hdr hrs g1 g9 (by omega)
    generalize hpl : plc rs (rsts ns rs.length) = pl at hin hlev hcl
    have hlp := inP_len hin
    obtain ⟨pv, ⟨ta, rfl, hta⟩, hpv⟩ := hcl
    obtain ⟨pa, rfl, hpa⟩ := id hpv
    have hC8 := hC.mono (e6.trans e8)
    have hU8 := hU.mono e9
    obtain ⟨ua, rfl, hua⟩ := id hU8
    have hsum : (if ns.sum + (rs.length : Int) + (ns.length : Int) - 1 < 0 then -(ns.sum + (rs.length : Int) + (ns.length : Int) - 1) else ns.sum + (rs.length : Int) + (ns.length : Int) - 1) < 10 ^ 60 - 100 := by
      have := sum_abs 9 ns okl.2.2.1
      omega
    generalize hdg : ns.sum + (rs.length : Int) + (ns.length : Int) - 1 = dg at hlev hta hsum
    have hwl : ∀ (ps : List Int) (d : Int), ps.length = rs.length → wlevs rs ps d k = levs rs ps d k := fun ps d h => fa.lev k rs ps d k2 k7 hrs (by omega) h
    refine ⟨_, rfl, ta, _, _, _, rfl, rfl, SqT.of hta, atI0, _, rfl, ua, ns, rfl, hua, _, rfl, _, _, rfl, rfl, _, rfl, _, _, rfl, rfl, _, _, rfl, rfl, rfl, _, rfl, iteNS (by show V.int dg = V.int (ns.sum + (rs.length : Int) + (k : Int) - 1); rw [← hdg, nsl]) ?_⟩
    refine ⟨_, rfl, _, rfl, ta, _, _, _, rfl, rfl, SqT.of hta, atI0, _, rfl, ta, _, _, _, rfl, rfl, SqT.of hta, atI1, cv, _, rs, pl, dg, k, rfl, hC8, okc, hord, k2, by omega, hpv, hlp, ?_⟩
    rintro _ H10 e10 ⟨la, rfl, hla⟩
    refine ⟨la, _, rfl, .inl ⟨SqL.of hla, fun t nt => ?_⟩⟩
    have e11 := e10.trans (Ex.new (o := .tup (iv (wlevs rs pl dg k))) nt)
    refine ⟨_, rfl, _, _, ⟨t, rfl, upd_same⟩, hU8.mono e11, _, rfl, ?_⟩
    rw [show not (decide (wlevs rs pl dg k = ns)) = false by rw [hwl pl dg hlp, hlev, decide_eq_true rfl]; rfl]
    refine iteF ?_
    have hta11 := e11.tup hta
    refine ⟨_, rfl, ta, _, _, _, rfl, rfl, SqT.of hta11, atI0, _, rfl, _, rfl, v, cv, rs, rfl, hd.mono (e9.trans e11), hC8.mono e11, okc, ?_⟩
    rintro ov H12 e12 ⟨ops, hops, hopin⟩
    refine ⟨by show 2 ≤ sizeLine; decide, fun oth noth => ?_⟩
    have e13 := (e11.trans e12).trans (Ex.new (o := .tup [.int dg, ov]) noth)
    have hta13 := e13.tup hta
    have hpv13 := hpv.mono e13
    have d0 : ∀ z : Int, dg - 7 ≤ z → z ≤ dg + 1 → (if z < 0 then -z else z) < 10 ^ 60 := fun z h1 h2 => by
      split at hsum <;> split <;> omega
    have gt : Good rs _ (.ref ta) := ⟨dg, .ref pa, pl, ⟨ta, rfl, hta13⟩, d0 _ (by omega) (by omega), hpv13, hin⟩
    have go : Good rs (upd H12 oth (.tup [.int dg, ov])) (.ref oth) := ⟨dg, ov, ops, ⟨oth, rfl, upd_same⟩, d0 _ (by omega) (by omega), hops.mono (Ex.new noth), hopin⟩
    refine ⟨_, rfl, _, rfl, _, rfl, ta, _, _, _, rfl, rfl, SqT.of hta13, atI0, _, _, rfl, rfl, _, rfl, ta, _, _, _, rfl, rfl, SqT.of hta13, atI1, by show 2 ≤ sizeLine; decide, fun t3 nt3 => ?_⟩
    have e14 := Ex.new (o := .tup [.int (dg + 1), .ref pa]) nt3
    have g3 : Good rs (upd (upd H12 oth (.tup [.int dg, ov])) t3 (.tup [.int (dg + 1), .ref pa])) (.ref t3) := ⟨dg + 1, .ref pa, pl, ⟨t3, rfl, upd_same⟩, d0 _ (by omega) (by omega), hpv13.mono e14, hin⟩
    have hta14 := e14.tup hta13
    refine ⟨_, rfl, ta, _, _, _, rfl, rfl, SqT.of hta14, atI0, _, rfl, _, _, rfl, rfl, _, rfl, ta, _, _, _, rfl, rfl, SqT.of hta14, atI1, by show 2 ≤ sizeLine; decide, fun t4 nt4 => ?_⟩
    have e15 := Ex.new (o := .tup [.int (dg - k), .ref pa]) nt4
    have g4 : Good rs (upd (upd (upd H12 oth (.tup [.int dg, ov])) t3 (.tup [.int (dg + 1), .ref pa])) t4 (.tup [.int (dg - k), .ref pa])) (.ref t4) := ⟨dg - k, .ref pa, pl, ⟨t4, rfl, upd_same⟩, d0 _ (by omega) (by omega), (hpv13.mono e14).mono e15, hin⟩
    refine ⟨by show 4 ≤ sizeLine; decide, fun t5 nt5 => ?_⟩
    have e16 := Ex.new (o := .tup [.ref ta, .ref oth, .ref t3, .ref t4]) nt5
    have e17 := ((e13.trans e14).trans e15).trans e16
    have hall : ∀ x ∈ [V.ref ta, .ref oth, .ref t3, .ref t4], Good rs (upd (upd (upd (upd H12 oth (.tup [.int dg, ov])) t3 (.tup [.int (dg + 1), .ref pa])) t4 (.tup [.int (dg - k), .ref pa])) t5 (.tup [.ref ta, .ref oth, .ref t3, .ref t4])) x := fun x hx => by
      simp only [List.mem_cons, List.not_mem_nil, or_false] at hx
      rcases hx with rfl | rfl | rfl | rfl
      · exact ((gt.mono e14).mono e15).mono e16
      · exact ((go.mono e14).mono e15).mono e16
      · exact (g3.mono e15).mono e16
      · exact g4.mono e16
    generalize hH17 : upd (upd (upd (upd H12 oth (.tup [.int dg, ov])) t3 (.tup [.int (dg + 1), .ref pa])) t4 (.tup [.int (dg - k), .ref pa])) t5 (.tup [.ref ta, .ref oth, .ref t3, .ref t4]) = H17 at e17 hall ⊢
    have ht5 : H17 t5 = some (.tup [.ref ta, .ref oth, .ref t3, .ref t4]) := by rw [← hH17, upd_same]
    refine ⟨t5, rfl, ⟨_, SqT.of ht5⟩, for_it (walk_tup (K := K) (xs := [V.ref ta, .ref oth, .ref t3, .ref t4])) (fun i σ H' => ∃ b4 b9 b10, σ = [some v, some (.int k), some (.ref ua), some (.int (dist ns)), b4, some (.int (rs.length : Int)), some cv, some (.ref ta), some (.ref oth), b9, b10] ∧ Ex H17 H') ⟨_, _, _, rfl, Ex.refl _⟩ (fun i σ H' hi ⟨_, _, _, _, e⟩ => SqT.of (e.tup ht5)) ?_ ?_⟩
    · rintro i2 x σ H18 H19 hi2 ⟨b4', b9', b10', rfl, e18⟩ ⟨rfl, hx⟩
      obtain ⟨d, y, ps, hx1, hx2, hx3, hx4⟩ := (hall x (List.mem_of_getElem? hx)).mono e18
      have e19 := e17.trans e18
      have hpsl := inP_len hx4
      refine ⟨_, rfl, _, rfl, _, rfl, cv, .ref ua, x, rs, ns, _, rfl, hC8.mono e19, okc, hU8.mono e19, okl, fun r hr => by rw [hord r hr, nsl], (e9.trans e19).tab hT, .cls d y ps hx1 hx2 hx3, ?_⟩
      rintro _ H20 e20 rfl
      obtain ⟨xa, rfl, hxa⟩ := hx1.mono e20
      refine ⟨_, rfl, _, rfl, xa, _, _, _, rfl, rfl, SqT.of hxa, atI0, _, rfl, xa, _, _, _, rfl, rfl, SqT.of hxa, atI1, cv, y, rs, ps, d, k, rfl, hC8.mono (e19.trans e20), okc, hord, k2, by omega, hx3.mono e20, hpsl, ?_⟩
      rintro _ H21 e21 ⟨la2, rfl, hla2⟩
      refine ⟨la2, _, rfl, .inl ⟨SqL.of hla2, fun t6 nt6 => ?_⟩⟩
      have e22 := (e20.trans e21).trans (Ex.new (o := .tup (iv (wlevs rs ps d k))) nt6)
      refine ⟨_, rfl, _, _, ⟨t6, rfl, upd_same⟩, hU8.mono (e19.trans e22), rfl, _, rfl, ?_⟩
      rw [hwl ps d hpsl] at e22
      rw [hwl ps d hpsl, hx4, nsl, Bool.true_and, show decide (V.bl (decide (levs rs ps d k = ns)) = V.bl (id (decide (levs rs ps d k = ns)))) = true from decide_eq_true rfl]
      exact iteF ⟨_, _, _, rfl, e18.trans e22⟩
    · rintro σ H18 ⟨b4', b9', b10', rfl, e18⟩
      have e19 := e17.trans e18
      have ht18 := e19.tup hta
      have hp18 := e19.tup hpa
      obtain ⟨cxs, ⟨ca, rfl, hca⟩, hce⟩ := hC8.mono e19
      have cxl := hce.1
      obtain ⟨r9, hr9⟩ : ∃ r, rs[rs.length - 1]? = some r := ⟨_, List.getElem?_eq_getElem (by omega)⟩
      obtain ⟨cx, hcx, hcR⟩ := hce.at hr9
      obtain ⟨cxa, rfl, hcxa⟩ := id hcR
      -- list(told)
      refine ⟨_, rfl, ta, _, rfl, .inr (SqT.of ht18), fun l1 nl1 => ?_⟩
      have f1 := Ex.new (o := .lst [.int dg, .ref pa]) nl1
      have a1 : Asked rs ns _ (.ref l1) false := asked_lst (upd_same (H := H18) (a := l1) (o := .lst [.int dg, .ref pa]))
      -- told[:1]
      refine ⟨_, rfl, 1, rfl, ta, _, rfl, SqT.of (f1.tup ht18), fun w => absurd w.2 nocut1, fun _ l2 nl2 => ?_⟩
      rw [cut1]
      have f2 := Ex.new (o := .tup [.int dg]) nl2
      have a2 : Asked rs ns _ (.ref l2) false := asked_size (upd_same (H := upd H18 l1 (.lst [.int dg, .ref pa])) (a := l2) (o := .tup [.int dg])) (by show (1 : Nat) ≠ 2; decide)
      have t2 := (f1.trans f2).tup ht18
      have p2 := (f1.trans f2).tup hp18
      generalize hG2 : upd (upd H18 l1 (.lst [.int dg, .ref pa])) l2 (.tup [.int dg]) = G2 at f2 a2 t2 p2 ⊢
      have b1 := a1.mono f2
      -- (told[1], told[0])
      refine ⟨_, rfl, ta, _, _, _, rfl, rfl, SqT.of t2, atI1, _, rfl, ta, _, _, _, rfl, rfl, SqT.of t2, atI0, by show 2 ≤ sizeLine; decide, fun l3 nl3 => ?_⟩
      have f3 := Ex.new (o := .tup [.ref pa, .int dg]) nl3
      have t3' := f3.tup t2
      have p3 := f3.tup p2
      have a3 : Asked rs ns _ (.ref l3) false := .degree (.ref pa) (.int dg) (.tup (iv pl)) ⟨l3, rfl, upd_same (H := G2) (a := l3) (o := .tup [.ref pa, .int dg])⟩ ⟨pa, rfl, p3⟩ rfl
      -- (told[0], list(told[1]))
      refine ⟨_, rfl, ta, _, _, _, rfl, rfl, SqT.of t3', atI0, _, rfl, ta, _, _, _, rfl, rfl, SqT.of t3', atI1, pa, _, rfl, .inr (SqT.of p3), fun l4 nl4 => ⟨by show 2 ≤ sizeLine; decide, fun l5 nl5 => ?_⟩⟩
      have f4 := Ex.new (o := .lst (iv pl)) nl4
      have f5 := Ex.new (o := .tup [.int dg, .ref l4]) nl5
      have a5 : Asked rs ns _ (.ref l5) false := .list dg (.ref l4) (iv pl) ⟨l5, rfl, upd_same (H := upd (upd G2 l3 (.tup [.ref pa, .int dg])) l4 (.lst (iv pl))) (a := l5) (o := .tup [.int dg, .ref l4])⟩ (d0 _ (by omega) (by omega)) ⟨l4, rfl, f5.lst upd_same⟩
      have t5' := (f4.trans f5).tup t3'
      have p5 := (f4.trans f5).tup p3
      have b3 := a3.mono (f4.trans f5)
      have g25 := (f3.trans f4).trans f5
      generalize hG5 : upd (upd (upd G2 l3 (.tup [.ref pa, .int dg])) l4 (.lst (iv pl))) l5 (.tup [.int dg, .ref l4]) = G5 at a5 t5' p5 b3 g25 ⊢
      have c1 := b1.mono g25
      have c2 := a2.mono g25
      -- (told[0], told[1][:-1])
      refine ⟨_, rfl, ta, _, _, _, rfl, rfl, SqT.of t5', atI0, _, rfl, ta, _, _, _, rfl, rfl, SqT.of t5', atI1, _, rfl, -1, rfl, pa, _, rfl, SqT.of p5, fun w => absurd w.2 (nocut_m1 (by omega)), fun _ l6 nl6 => ⟨by show 2 ≤ sizeLine; decide, fun l7 nl7 => ?_⟩⟩
      rw [cut_iv] at nl7 ⊢
      have f6 := Ex.new (o := .tup (iv pl.dropLast)) nl6
      have f7 := Ex.new (o := .tup [.int dg, .ref l6]) nl7
      have a7 : Asked rs ns _ (.ref l7) false := Asked.out ⟨l7, rfl, upd_same (H := upd G5 l6 (.tup (iv pl.dropLast))) (a := l7) (o := .tup [.int dg, .ref l6])⟩ (d0 _ (by omega) (by omega)) ⟨l6, rfl, f7.tup upd_same⟩ (inP_short (by rw [List.length_dropLast]; omega))
      have g57 := f6.trans f7
      generalize hG7 : upd (upd G5 l6 (.tup (iv pl.dropLast))) l7 (.tup [.int dg, .ref l6]) = G7 at a7 g57 ⊢
      have t7' := g57.tup t5'
      have p7 := g57.tup p5
      refine ⟨by show 6 ≤ sizeLine; decide, fun w1 nw1 => ?_⟩
      have f8 := Ex.new (o := .lst [.non, .ref l1, .ref l2, .ref l3, .ref l5, .ref l7]) nw1
      have al1 : ∀ x ∈ [V.non, .ref l1, .ref l2, .ref l3, .ref l5, .ref l7], Asked rs ns _ x false := fun x hx => by
        simp only [List.mem_cons, List.not_mem_nil, or_false] at hx
        rcases hx with rfl | rfl | rfl | rfl | rfl | rfl
        · exact .plain (H := upd G7 w1 (.lst [.non, .ref l1, .ref l2, .ref l3, .ref l5, .ref l7])) .non rfl rfl
        · exact (c1.mono g57).mono f8
        · exact (c2.mono g57).mono f8
        · exact (b3.mono g57).mono f8
        · exact (a5.mono g57).mono f8
        · exact a7.mono f8
      have hw1 : (upd G7 w1 (.lst [.non, .ref l1, .ref l2, .ref l3, .ref l5, .ref l7])) w1 = some (.lst [.non, .ref l1, .ref l2, .ref l3, .ref l5, .ref l7]) := upd_same
      have t8 := f8.tup t7'
      have p8 := f8.tup p7
      have ex8 : Ex H18 (upd G7 w1 (.lst [.non, .ref l1, .ref l2, .ref l3, .ref l5, .ref l7])) := by
        have q2 : Ex H18 G2 := by
          rw [← hG2]
          exact f1.trans (Ex.new nl2)
        exact ((q2.trans g25).trans g57).trans f8
      generalize hG8 : upd G7 w1 (.lst [.non, .ref l1, .ref l2, .ref l3, .ref l5, .ref l7]) = G8 at al1 hw1 t8 p8 ex8 ⊢
      have hca8 := ex8.tup hca
      have hcx8 := ex8.tup hcxa
      -- told + (0,)
      refine ⟨_, rfl, _, rfl, by show 1 ≤ sizeLine; decide, fun m1 nm1 => ?_⟩
      have k1 := Ex.new (o := .tup [.int 0]) nm1
      refine ⟨[.int dg, .ref pa], [.int 0], ⟨ta, rfl, k1.tup t8⟩, ⟨m1, rfl, upd_same⟩, by show 3 ≤ sizeLine; decide, fun z1 G9 k2' hz1 => ?_⟩
      obtain ⟨z1a, rfl, hz1a⟩ := hz1
      have a9 : Asked rs ns G9 (.ref z1a) false := asked_size hz1a (by show (3 : Nat) ≠ 2; decide)
      have k3 := k1.trans k2'
      have t9 := k3.tup t8
      have p9 := k3.tup p8
      -- (None, told[1])
      refine ⟨_, rfl, ta, _, _, _, rfl, rfl, SqT.of t9, atI1, by show 2 ≤ sizeLine; decide, fun m2 nm2 => ?_⟩
      have k4 := Ex.new (o := .tup [.non, .ref pa]) nm2
      have a10 : Asked rs ns _ (.ref m2) false := .degree .non (.ref pa) .non ⟨m2, rfl, upd_same (H := G9) (a := m2) (o := .tup [.non, .ref pa])⟩ rfl rfl
      have t10 := k4.tup t9
      have p10 := k4.tup p9
      -- (told[0], told[1][:-1] + (chain[-1][0],))
      refine ⟨_, rfl, ta, _, _, _, rfl, rfl, SqT.of t10, atI0, _, rfl, ta, _, _, _, rfl, rfl, SqT.of t10, atI1, _, rfl, -1, rfl, pa, _, rfl, SqT.of p10, fun w => absurd w.2 (nocut_m1 (by omega)), fun _ m3 nm3 => ?_⟩
      rw [cut_iv]
      have k5 := Ex.new (o := .tup (iv pl.dropLast)) nm3
      have k35 := (k3.trans k4).trans k5
      refine ⟨_, rfl, _, rfl, ca, _, _, .ref cxa, rfl, rfl, SqT.of (k35.tup hca8), atI_m1 (by rw [cxl]; exact hcx), cxa, _, _, _, rfl, rfl, SqT.of (k35.tup hcx8), atI0, by show 1 ≤ sizeLine; decide, fun m4 nm4 => ?_⟩
      have k6 := Ex.new (o := .tup [.int r9.1]) nm4
      refine ⟨iv pl.dropLast, [.int r9.1], ⟨m3, rfl, k6.tup upd_same⟩, ⟨m4, rfl, upd_same⟩, sz _ (by rw [iv_len, List.length_dropLast]; show _ + 1 ≤ _; omega), fun z2 G11 k7' hz2 => ⟨by show 2 ≤ sizeLine; decide, fun m5 nm5 => ?_⟩⟩
      have k8 := Ex.new (o := .tup [.int dg, z2]) nm5
      have a12 : Asked rs ns _ (.ref m5) false := Asked.out ⟨m5, rfl, upd_same (H := G11) (a := m5) (o := .tup [.int dg, z2])⟩ (d0 _ (by omega) (by omega)) (ps := pl.dropLast ++ [r9.1]) (IsT.mono k8 (by show IsT G11 z2 (List.map V.int (pl.dropLast ++ [r9.1])); rw [List.map_append]; exact hz2)) (inP_far hlp hr9)
      have k58 := ((k5.trans k6).trans k7').trans k8
      generalize hG12 : upd G11 m5 (.tup [.int dg, z2]) = G12 at a12 k58 ⊢
      refine ⟨Nat.zero_le _, fun m6 nm6 => ?_⟩
      have k9 := Ex.new (o := .tup []) nm6
      have a13 : Asked rs ns _ (.ref m6) false := asked_size (upd_same (H := G12) (a := m6) (o := .tup [])) (by show (0 : Nat) ≠ 2; decide)
      refine ⟨by show 4 ≤ sizeLine; decide, fun w2 nw2 => ?_⟩
      have k10 := Ex.new (o := .lst [V.ref z1a, .ref m2, .ref m5, .ref m6]) nw2
      have k8a := ((k3.trans k4).trans k58).trans (k9.trans k10)
      refine ⟨w1, w2, _, _, rfl, rfl, k8a.lst hw1, upd_same, by show 10 ≤ sizeLine; decide, fun w3 nw3 => ?_⟩
      have k11 := Ex.new (o := .lst ([V.non, .ref l1, .ref l2, .ref l3, .ref l5, .ref l7] ++ [V.ref z1a, .ref m2, .ref m5, .ref m6])) nw3
      have k12 := k8a.trans k11
      have al2 : ∀ x ∈ [V.non, .ref l1, .ref l2, .ref l3, .ref l5, .ref l7] ++ [V.ref z1a, .ref m2, .ref m5, .ref m6], Asked rs ns _ x false := fun x hx => by
        rcases List.mem_append.mp hx with hx | hx
        · exact (al1 x hx).mono k12
        · simp only [List.mem_cons, List.not_mem_nil, or_false] at hx
          rcases hx with rfl | rfl | rfl | rfl
          · exact a9.mono (((k4.trans k58).trans (k9.trans k10)).trans k11)
          · exact (a10.mono k58).mono ((k9.trans k10).trans k11)
          · exact a12.mono ((k9.trans k10).trans k11)
          · exact a13.mono (k10.trans k11)
      have hw3 : (upd (upd (upd G12 m6 (.tup [])) w2 (.lst [V.ref z1a, .ref m2, .ref m5, .ref m6])) w3 (.lst ([V.non, .ref l1, .ref l2, .ref l3, .ref l5, .ref l7] ++ [V.ref z1a, .ref m2, .ref m5, .ref m6]))) w3 = some (.lst ([V.non, .ref l1, .ref l2, .ref l3, .ref l5, .ref l7] ++ [V.ref z1a, .ref m2, .ref m5, .ref m6])) := upd_same
      have hwn : ([V.non, .ref l1, .ref l2, .ref l3, .ref l5, .ref l7] ++ [V.ref z1a, .ref m2, .ref m5, .ref m6]).length = 10 := rfl
      generalize upd (upd (upd G12 m6 (.tup [])) w2 (.lst [V.ref z1a, .ref m2, .ref m5, .ref m6])) w3 (.lst ([V.non, .ref l1, .ref l2, .ref l3, .ref l5, .ref l7] ++ [V.ref z1a, .ref m2, .ref m5, .ref m6])) = G13 at k11 k12 al2 hw3 ⊢
      generalize [V.non, .ref l1, .ref l2, .ref l3, .ref l5, .ref l7] ++ [V.ref z1a, .ref m2, .ref m5, .ref m6] = wl at al2 hw3 hwn ⊢
      have e13' := (e19.trans ex8).trans k12
      refine ⟨_, rfl, w3, rfl, ⟨_, SqL.of hw3⟩, lc_go (walk_list (K := K) (xs := wl)) (by omega) (fun H' e => SqL.of (e.lst hw3)) (fun _ _ (_ : Unit) => True) (fun _ _ _ _ _ h => h) (fun _ => false) (fun _ => ()) ?_ ?_⟩
      · rintro i3 x G14 G15 hi3 k14 ⟨rfl, hx⟩ F S hF hS
        have e15' := e13'.trans k14
        refine ⟨rfl, ?_⟩
        refine ⟨_, rfl, _, rfl, _, rfl, .ref ca, .ref ua, x, rs, ns, false, rfl, hC8.mono e15', okc, hU8.mono e15', okl, fun r hr => by rw [hord r hr, nsl], (e9.trans e15').tab hT, (al2 x (List.mem_of_getElem? hx)).mono k14, ?_⟩
        rintro _ G16 k16 rfl
        exact ⟨_, rfl, iteF (hF rfl G16 k16)⟩
      · intro D G14 ys nD k14 hD hE
        have ye : ys = [] := by
          have : ys.length = 0 := by
            rw [hE.1]
            unfold giv
            simp
          exact List.length_eq_zero_iff.mp this
        subst ye
        refine ⟨Nat.zero_le _, fun e0l ne0 => ?_⟩
        have k15 := Ex.new (o := .lst []) ne0
        refine ⟨[], [], ⟨D, rfl, k15.lst hD⟩, ⟨e0l, rfl, upd_same⟩, _, rfl, iteF ?_⟩
        exact ⟨_, _, _, _, _, _, _, rfl, (e9.trans e13').trans (k14.trans k15)⟩
  · rintro σ H2 ⟨b4, b5, b6, b7, b8, b9, b10, rfl, e2⟩
    refine ⟨_, rfl, u, ns, rfl, hU.mono e2, okl, ?_⟩
    rintro _ H3 e3 rfl
    refine ⟨_, rfl, rfl, q _ _ (e2.trans e3) ?_⟩
    rw [decide_eq_true rfl]
end K7

set_option Elab.async false
set_option linter.all false
set_option maxRecDepth 100000
set_option maxHeartbeats 4000000
namespace K7
open PySem PySem.Spec PyProof.Rows L2
variable {P : Program} {w : World} {K : PySem.W.Frag} {mg : Str → Option Value} {base : Heap}
/-! all levels that are met -/
def prodN (rs : List Rg) : Int := rs.foldl (fun a r => a * r.1) 1
def least (g : Nat) (one : List Int) : Int := if one = [] then -(g : Int) - 3 else one.getD (one.length - 1) 0
def extL (g : Nat) (t : Int) (one : List Int) : List (List Int) := (List.range ((g : Int) + t + 3 - least g one).toNat).map fun (e : Nat) => one ++ [least g one + (e : Int)]
def extLs (g : Nat) (t : Int) (acc : List (List Int)) : List (List Int) := acc.flatMap (extL g t)
def levL : Nat → Nat → Int → List (List Int)
  | 0, _, _ => [[]]
  | j + 1, g, t => extLs g t (levL j g t)
def dueB (k g : Nat) (t : Int) (ns : List Int) : Bool := decide (ns.sum = t + 1 - g - k) && decide (ldist ns ≤ (g : Int))
def dueL (k g : Nat) (t : Int) : List (List Int) := (levL k g t).filter (dueB k g t)
structure Facts2 : Prop where
  due_lt : ∀ (k g : Nat) (t : Int), (k = 2 ∨ k = 3) → 1 ≤ g → g ≤ 4 → 0 ≤ t → t < 2 * g → (dueL k g t).Pairwise (· < ·)
  met_due : ∀ (k : Nat) (rs : List Rg) (t : Int), (k = 2 ∨ k = 3) → (∀ r ∈ rs, rOk k 2 r) → 1 ≤ rs.length → rs.length ≤ 4 → 0 ≤ t → t < 2 * rs.length → ∀ x ∈ allT rs, wlevs rs x t k ∈ dueL k rs.length t
  due_met : ∀ (k : Nat) (rs : List Rg) (t : Int), (k = 2 ∨ k = 3) → (∀ r ∈ rs, rOk k 2 r) → 1 ≤ rs.length → rs.length ≤ 4 → 0 ≤ t → t < 2 * rs.length → ∀ l ∈ dueL k rs.length t, ∃ x ∈ allT rs, wlevs rs x t k = l
  due_ok : ∀ (k g : Nat) (t : Int), (k = 2 ∨ k = 3) → 1 ≤ g → g ≤ 4 → 0 ≤ t → t < 2 * g → ∀ l ∈ dueL k g t, okL l ∧ dist l ≤ g
  lev_len : ∀ (k j g : Nat) (t : Int), (k = 2 ∨ k = 3) → j ≤ k → 1 ≤ g → g ≤ 4 → 0 ≤ t → t < 2 * g → (levL j g t).length ≤ 10000
theorem allT_size : ∀ (rs : List Rg) (acc : List (List Int)), ((rs.foldl (fun acc r => extT acc r.1) acc).length : Int) = rs.foldl (fun a r => a * (r.1.toNat : Int)) (acc.length : Int)
  | [], acc => rfl
  | r :: rs, acc => by
    rw [List.foldl_cons, List.foldl_cons, allT_size rs]
    congr 1
    unfold extT
    induction acc with
    | nil => simp
    | cons a b ih =>
      rw [List.flatMap_cons, List.length_append, List.length_cons, Int.natCast_add, ih]
      unfold ext1
      rw [List.length_map, List.length_range, show ((b.length + 1 : Nat) : Int) = (b.length : Int) + 1 from rfl, Int.add_mul, Int.one_mul, Int.add_comm]
theorem prod_ge : ∀ (rs : List Rg) (a : Int), 1 ≤ a → (∀ r ∈ rs, 1 ≤ r.1) → a ≤ rs.foldl (fun a r => a * r.1) a
  | [], a, _, _ => Int.le_refl _
  | r :: rs, a, h, hr => by
    rw [List.foldl_cons]
    have h1 := hr r List.mem_cons_self
    have h2 : a * 1 ≤ a * r.1 := Int.mul_le_mul_of_nonneg_left h1 (by omega)
    have := prod_ge rs (a * r.1) (by omega) fun x hx => hr x (List.mem_cons_of_mem _ hx)
    omega
theorem prod_take (rs : List Rg) (i : Nat) (h : ∀ r ∈ rs, 1 ≤ r.1) : 1 ≤ prodN (rs.take i) ∧ prodN (rs.take i) ≤ prodN rs := by
  have h1 : 1 ≤ prodN (rs.take i) := prod_ge _ 1 (Int.le_refl _) fun r hr => h r (List.mem_of_mem_take hr)
  refine ⟨h1, ?_⟩
  have e : prodN rs = (rs.drop i).foldl (fun a r => a * r.1) (prodN (rs.take i)) := by
    unfold prodN
    rw [← List.foldl_append, List.take_append_drop]
  rw [e]
  exact prod_ge _ _ h1 fun r hr => h r (List.mem_of_mem_drop hr)
theorem allT_prod (rs : List Rg) (h : ∀ r ∈ rs, 1 ≤ r.1) : ((allT rs).length : Int) = prodN rs := by
  have := allT_size rs [[]]
  unfold allT prodN
  rw [this]
  show rs.foldl (fun a r => a * (r.1.toNat : Int)) 1 = _
  generalize (1 : Int) = a
  induction rs generalizing a with
  | nil => rfl
  | cons r rs ih =>
    rw [List.foldl_cons, List.foldl_cons, show (r.1.toNat : Int) = r.1 by have := h r List.mem_cons_self; omega]
    exact ih (fun x hx => h x (List.mem_cons_of_mem _ hx)) (allT_size rs [[]]) _
theorem prod_drop {rs : List Rg} {r : Rg} (h : rs[rs.length - 1]? = some r) : prodN rs = prodN rs.dropLast * r.1 := by
  have hl : 0 < rs.length := by
    have := (List.getElem?_eq_some_iff.mp h).1
    omega
  have e : rs = rs.dropLast ++ [r] := by
    have h1 : rs ≠ [] := List.ne_nil_of_length_pos hl
    have h2 : rs.getLast h1 = r := by
      rw [List.getLast_eq_getElem]
      exact Option.some.inj ((List.getElem?_eq_getElem _).symm.trans h)
    rw [← h2]
    exact (List.dropLast_concat_getLast h1).symm
  have e2 : prodN rs = prodN (rs.dropLast ++ [r]) := congrArg prodN e
  rw [e2]
  unfold prodN
  rw [List.foldl_append]
  rfl
theorem Each.drop1 {α : Type} {R : V → α → Prop} {xs : List V} {ds : List α} (h : Each R xs ds) : Each R xs.dropLast ds.dropLast := by
  refine ⟨by rw [List.length_dropLast, List.length_dropLast, h.1], fun i x d a b => ?_⟩
  rw [List.getElem?_dropLast] at a b
  split at a
  · split at b
    · exact h.2 i x d a b
    · cases b
  · cases a
theorem nocutN {n : Nat} (h : 0 < n) : ¬ HT.sIx n n (some (-1)) = n := by
  show ¬ (if (-1 : Int) < 0 then ((-1 : Int) + (n : Int)).toNat else min (-1 : Int).toNat n) = _
  rw [if_pos (by decide)]
  omega
theorem putK_keys (kvs : List (List Key × V)) (ns : List Key) (v : V) : (ns ∈ kvs.map (·.1) → (putK kvs ns v).map (·.1) = kvs.map (·.1)) ∧ (ns ∉ kvs.map (·.1) → (putK kvs ns v).map (·.1) = kvs.map (·.1) ++ [ns]) := by
  unfold putK
  have e : (kvs.any fun kv => decide (kv.1 = ns)) = true ↔ ns ∈ kvs.map (·.1) := by
    rw [List.any_eq_true, List.mem_map]
    constructor
    · rintro ⟨x, hx, h⟩
      exact ⟨x, hx, of_decide_eq_true h⟩
    · rintro ⟨x, hx, h⟩
      exact ⟨x, hx, decide_eq_true h⟩
  refine ⟨fun h => ?_, fun h => ?_⟩
  · rw [if_pos (e.mpr h), List.map_map]
    refine List.map_congr_left fun kv _ => ?_
    show (if kv.1 = ns then (kv.1, v) else kv).1 = kv.1
    split <;> rfl
  · rw [if_neg (fun z => h (e.mp z)), List.map_append]
    rfl
theorem inl_inj {a b : List Int} (h : a.map (Sum.inl (β := Str)) = b.map Sum.inl) : a = b := (List.map_inj_right (fun x y e => Sum.inl.inj e)).mp h
theorem least_in {g : Nat} {one : List Int} {lo hi : Int} (h : ∀ x ∈ one, lo ≤ x ∧ x < hi) (h0 : lo ≤ -(g : Int) - 3) (h1 : -(g : Int) - 3 ≤ hi) (hl : lo = -(g : Int) - 3) : lo ≤ least g one ∧ least g one ≤ hi := by
  unfold least
  split
  · omega
  · rename_i hn
    have hp : 0 < one.length := List.length_pos_iff.mpr hn
    have := h (one.getD (one.length - 1) 0) (getD_mem (by omega))
    omega
theorem levL_ok (g : Nat) (t : Int) (h0 : 0 ≤ t) : ∀ (j : Nat), ∀ o ∈ levL j g t, o.length = j ∧ ∀ x ∈ o, -(g : Int) - 3 ≤ x ∧ x < (g : Int) + t + 3
  | 0, o, ho => by
    rw [show levL 0 g t = [[]] from rfl, List.mem_singleton] at ho
    rw [ho]
    exact ⟨rfl, fun x hx => nomatch hx⟩
  | j + 1, o, ho => by
    obtain ⟨one, h1, h2⟩ := List.mem_flatMap.mp (show o ∈ (levL j g t).flatMap (extL g t) from ho)
    obtain ⟨e, he, rfl⟩ := List.mem_map.mp h2
    have he' := List.mem_range.mp he
    obtain ⟨i1, i2⟩ := levL_ok g t h0 j one h1
    have hb := least_in i2 (Int.le_refl _) (by omega) rfl
    refine ⟨by rw [List.length_append, i1]; rfl, fun x hx => ?_⟩
    rcases List.mem_append.mp hx with hx | hx
    · exact i2 x hx
    · rw [List.mem_singleton.mp hx]
      omega
def sp_L_all_right : Sp := fun vs H Q _ => ∃ v, vs = [v] ∧ Dice H v ∧ RetV (.bl true) H Q
theorem sc_L_all_right : FnScope ["_law_dice_here", "_law_k", "_law_chain", "_law_size", "_law_n", "_law_s", "_law_total", "_law_rings", "_law_met", "_law_x", "_law_level", "_law_turn", "_law_more", "_law_one", "_law_least", "_law_e", "_law_due"] ["_law_dice_here"] (defScope s_L_all_right) := ⟨rfl, rfl, rfl, by decide +kernel, rfl, by decide +kernel, by decide +kernel⟩
theorem h_L_all_right (T : Top K mg) (fa2 : Facts2) (fa : Facts) (h_L_roll : Has P w K mg base "_law_roll" 1 ["_law_dice_here", "_law_total"] sp_L_roll)
    (h_L_equal_chain : Has P w K mg base "_law_equal_chain" 4 ["_law_dice_here", "_law_rings", "_law_k"] sp_L_equal_chain) (h_L_all_tuples : Has P w K mg base "_law_all_tuples" 1 ["_law_chain"] sp_L_all_tuples)
    (h_L_levels : Has P w K mg base "_law_levels" 3 ["_law_chain", "_law_total", "_law_x"] sp_L_levels) (h_L_distance : Has P w K mg base "_law_distance" 1 ["_law_levels_here"] sp_L_distance)
    (h_can_be_met : Has P w K mg base "can_be_met" 5 ["rings", "levels"] sp_can_be_met) : Has P w K mg base "_law_all_right" 6 ["_law_dice_here"] sp_L_all_right := by
  refine has_mk T 45 rfl rfl sc_L_all_right (fun _ _ _ _ _ _ us hl => match us, hl with | [_], _ => rfl) ?len fun f cdv A outer s H vs Q E hr h => ?main
  case len =>
    rintro vs H Q E ⟨v, rfl, _⟩
    rfl
  obtain ⟨v, rfl, hd, q⟩ := h
  refine ⟨_, (pss_cons (ps_set (i := 1) sc_L_all_right.nd rfl (by first | exact Or.inl rfl | exact Or.inr rfl) (pe_op op_add pe_int (pe_has h_L_roll (hr.mono (by decide)) (pa_cons (pv 0) (pa_cons pe_int pa_nil))))) (pss_cons (ps_par (i := 2) (j := 3) (by rfl) sc_L_all_right.nd rfl rfl (by decide) rfl rfl (pa_cons (pe_has h_L_equal_chain (hr.mono (by decide)) (pa_cons (pv 0) (pa_cons (pe_op op_add pe_int (pe_has h_L_roll (hr.mono (by decide)) (pa_cons (pv 0) (pa_cons pe_int pa_nil)))) (pa_cons (pv 1) pa_nil)))) (pa_cons pe_int pa_nil)) (by rfl)) (pss_cons (ps_for PassesOwn.never rfl (pi_tup (pv 2)) (pg_tup rfl (pgs_cons (pg_name (i := 4) sc_L_all_right.nd rfl (by first | exact Or.inl rfl | exact Or.inr rfl)) (pgs_cons (pg_name (i := 5) sc_L_all_right.nd rfl (by first | exact Or.inl rfl | exact Or.inr rfl)) pgs_nil))) (pss_one (ps_set (i := 3) sc_L_all_right.nd rfl (by first | exact Or.inl rfl | exact Or.inr rfl) (pe_op op_mul (pv 3) (pv 4))))) (pss_cons (ps_while PassesOwn.never (pt_cmpR op_gt (pv 3) pe_int (nomark _)) (pss_cons (ps_set (i := 3) sc_L_all_right.nd rfl (by first | exact Or.inl rfl | exact Or.inr rfl) (pe_op op_fdivN (pv 3) (pe_ix ix_tup (pe_ix ix_tup (pv 2) (pe_un un_neg pe_int) (fun _ _ => rfl)) pe_int (fun _ _ => rfl)))) (pss_one (ps_set (i := 2) sc_L_all_right.nd rfl (by first | exact Or.inl rfl | exact Or.inr rfl) (pe_slice sl_tupA (pv 2) po_none (po_some (pe_un un_neg pe_int))))))) (pss_cons (ps_asg (pe_tup (pa_cons (pe_has h_L_roll (hr.mono (by decide)) (pa_cons (pv 0) (pa_cons (pe_op op_mul pe_int (pe_callB call_len_seq (by rfl) T.m_len PySem.boot_len (pa_cons (pv 2) pa_nil))) pa_nil))) (pa_cons (pe_callB call_len_seq (by rfl) T.m_len PySem.boot_len (pa_cons (pv 2) pa_nil)) pa_nil))) (pg_tup rfl (pgs_cons (pg_name (i := 6) sc_L_all_right.nd rfl (by first | exact Or.inl rfl | exact Or.inr rfl)) (pgs_cons (pg_name (i := 7) sc_L_all_right.nd rfl (by first | exact Or.inl rfl | exact Or.inr rfl)) pgs_nil)))) (pss_cons (ps_set (i := 8) sc_L_all_right.nd rfl (by first | exact Or.inl rfl | exact Or.inr rfl) pe_dnewT) (pss_cons (ps_for PassesOwn.never rfl (pi_list (pe_has h_L_all_tuples (hr.mono (by decide)) (pa_cons (pv 2) pa_nil))) (pg_name (i := 9) sc_L_all_right.nd rfl (by first | exact Or.inl rfl | exact Or.inr rfl)) (pss_one (ps_dput (hu_of hr) (pv 8) (pe_callTy call_tuple_of (by rfl) T.m_tuple (by decide +kernel) (pa_cons (pe_has h_L_levels (hr.mono (by decide)) (pa_cons (pv 2) (pa_cons (pv 6) (pa_cons (pv 9) pa_nil)))) pa_nil)) pe_int rfl))) (pss_cons (ps_set (i := 10) sc_L_all_right.nd rfl (by first | exact Or.inl rfl | exact Or.inr rfl) (pe_lst (pa_cons (pe_tup pa_nil) pa_nil))) (pss_cons (ps_for PassesOwn.never rfl (pi_range1 (by rfl) T.m_range (pa_cons (pv 1) pa_nil)) (pg_name (i := 11) sc_L_all_right.nd rfl (by first | exact Or.inl rfl | exact Or.inr rfl)) (pss_cons (ps_set (i := 12) sc_L_all_right.nd rfl (by first | exact Or.inl rfl | exact Or.inr rfl) (pe_lst pa_nil)) (pss_cons (ps_for PassesOwn.never rfl (pi_list (pv 10)) (pg_name (i := 13) sc_L_all_right.nd rfl (by first | exact Or.inl rfl | exact Or.inr rfl)) (pss_cons (ps_set (i := 14) sc_L_all_right.nd rfl (by first | exact Or.inl rfl | exact Or.inr rfl) (pe_ifExp (pt_cmpR (op_neT hr.units) (pv 13) (pe_tup pa_nil) (nomark _)) (pe_ix ix_tup (pv 13) (pe_un un_neg pe_int) (fun _ _ => rfl)) (pe_op op_sub (pe_un un_neg (pv 7)) pe_int))) (pss_one (ps_expr (pe_bm PySem.F.plainAttrs_list PySem.F.slot_list_extend PySem.F.type_list_extend mt_extend (pv 12) (pa_cons (pe_lc rfl sc_L_all_right.nd (pi_range2 (by rfl) T.m_range (pa_cons (pv 14) (pa_cons (pe_op op_add (pe_op op_add (pv 7) (pv 6)) pe_int) pa_nil))) (blkOk_by (own := [("_law_e", 15)]) (N := ["_law_dice_here", "_law_k", "_law_chain", "_law_size", "_law_n", "_law_s", "_law_total", "_law_rings", "_law_met", "_law_x", "_law_level", "_law_turn", "_law_more", "_law_one", "_law_least", "_law_e", "_law_due"]) (sc := (defScope s_L_all_right)) (by decide +kernel)) (fun _ _ _ _ _ => (pg_name (i := 15) sc_L_all_right.nd rfl (by first | exact Or.inl rfl | exact Or.inr rfl))) (fun _ _ _ _ _ => pts_nil) (fun _ _ _ _ _ => (pe_op op_catT (pv 13) (pe_tup (pa_cons (pv 15) pa_nil))))) pa_nil)))))) (pss_one (ps_set (i := 10) sc_L_all_right.nd rfl (by first | exact Or.inl rfl | exact Or.inr rfl) (pe_callTy call_list_of (by rfl) T.m_list (by decide +kernel) (pa_cons (pv 12) pa_nil))))))) (pss_cons (ps_setLc (i := 16) rfl sc_L_all_right.nd rfl rfl (sw_true rfl rfl rfl (by decide +kernel)) (pi_list (pv 10)) (blkOk_by (own := [("_law_one", 13)]) (N := ["_law_dice_here", "_law_k", "_law_chain", "_law_size", "_law_n", "_law_s", "_law_total", "_law_rings", "_law_met", "_law_x", "_law_level", "_law_turn", "_law_more", "_law_one", "_law_least", "_law_e", "_law_due"]) (sc := (defScope s_L_all_right)) (by decide +kernel)) (fun _ _ _ _ _ => (pg_name (i := 13) sc_L_all_right.nd rfl (by first | exact Or.inl rfl | exact Or.inr rfl))) (fun _ _ _ _ _ => (pts_one (PW.pt (pw_and (pt_cmpR op_eq (pe_callB (cr_sumT rfl) (by rfl) T.m_sum (by decide +kernel) (pa_cons (pv 13) pa_nil)) (pe_op op_sub (pe_op op_sub (pe_op op_add (pv 6) pe_int) (pv 7)) (pv 1)) (nomark _)) (pw_and1 (pt_cmpR op_le (pe_has h_L_distance (hr.mono (by decide)) (pa_cons (pv 13) pa_nil)) (pv 7) (nomark _))))))) (fun _ _ _ _ _ => (pv 13))) (pss_one (ps_ret (pe_and (pe_cmpR (op_eqLT hr.units) (pe_callB (cr_sortedDT rfl hr.units) (by rfl) T.m_sorted (by decide +kernel) (pa_cons (pv 8) pa_nil)) (pv 16) (nomark _)) (pe_one (pe_cmpR (op_eqL hr.units) (pe_lc rfl sc_L_all_right.nd (pi_list (pv 16)) (blkOk_by (own := [("_law_one", 13)]) (N := ["_law_dice_here", "_law_k", "_law_chain", "_law_size", "_law_n", "_law_s", "_law_total", "_law_rings", "_law_met", "_law_x", "_law_level", "_law_turn", "_law_more", "_law_one", "_law_least", "_law_e", "_law_due"]) (sc := (defScope s_L_all_right)) (by decide +kernel)) (fun _ _ _ _ _ => (pg_name (i := 13) sc_L_all_right.nd rfl (by first | exact Or.inl rfl | exact Or.inr rfl))) (fun _ _ _ _ _ => (pts_one (pt_not (pt_val (pe_has h_can_be_met (hr.mono (by decide)) (pa_cons (pv 7) (pa_cons (pv 13) pa_nil))))))) (fun _ _ _ _ _ => (pv 13))) (pe_lst pa_nil) (nomark _)))))))))))))))), ?_⟩
  refine ⟨_, rfl, v, 2, rfl, hd, by decide, by decide, fun r0 r0a r0b => ⟨_, _, rfl, rfl, ?_⟩⟩
  obtain ⟨k, hk, hk2⟩ : ∃ k : Nat, (2 : Int) + r0 = (k : Int) ∧ (k = 2 ∨ k = 3) := ⟨(2 + r0).toNat, by omega, by omega⟩
  rw [show (fun (i j : Int) => V.int (i + j)) 2 r0 = V.int (k : Int) from congrArg V.int hk]
  refine ⟨_, rfl, _, rfl, v, 4, rfl, hd, by decide, by decide, fun r1 r1a r1b => ⟨_, _, rfl, rfl, ?_⟩⟩
  refine ⟨_, rfl, v, 1 + r1, k, rfl, hd, by omega, by omega, by omega, by omega, ?_⟩
  rintro cv H1 e1 ⟨rs0, hC0, hrl0, hrs0⟩
  refine ⟨_, _, rfl, ?_⟩
  obtain ⟨xs0, ⟨p0, rfl, hp0⟩, he0⟩ := id hC0
  have l0 : 1 ≤ rs0.length ∧ rs0.length ≤ 4 := by omega
  have okr0 : ∀ r ∈ rs0, okR r ∧ r.1 ≤ 6 := fun r hr => by
    refine ⟨((hrs0 r hr).ok (by omega) (by omega) (by decide)).1, ?_⟩
    obtain ⟨m, s, rfl, m1, m2, _⟩ := hrs0 r hr
    have : m = 1 ∨ m = 2 := by omega
    show (k : Int) * m ≤ 6
    rcases this with rfl | rfl <;> omega
  -- the size
  refine ⟨_, rfl, p0, rfl, ⟨_, SqT.of hp0⟩, for_it (walk_tup (K := K) (xs := xs0)) (fun i σ H' => ∃ b4 b5, σ = [some v, some (.int k), some (.ref p0), some (.int (prodN (rs0.take i))), b4, b5, none, none, none, none, none, none, none, none, none, none, none] ∧ Ex H1 H') ⟨none, none, rfl, Ex.refl _⟩ (fun i σ H' hi ⟨_, _, _, e⟩ => SqT.of (e.tup hp0)) ?_ ?_⟩
  · rintro i x σ H2 H3 hi ⟨b4, b5, rfl, e2⟩ ⟨rfl, hx⟩
    obtain ⟨r, hr, hR⟩ := he0.at' hx
    obtain ⟨a, rfl, ha⟩ := IsT.mono e2 hR
    have bn := (okr0 r (List.mem_of_getElem? hr))
    obtain ⟨⟨o1, o2, _⟩, _⟩ := bn
    refine ⟨a, _, rfl, SqT.of ha, rfl, _, _, rfl, _, _, rfl, rfl, ?_⟩
    have es : prodN (rs0.take (i + 1)) = prodN (rs0.take i) * r.1 := by
      unfold prodN
      rw [List.take_succ, hr, List.foldl_append]
      rfl
    refine ⟨_, rfl, _, rfl, _, _, rfl, rfl, .inr ⟨by omega, by omega⟩, ?_⟩
    rw [es]
    exact ⟨_, _, rfl, e2⟩
  rintro σ H2 ⟨b4, b5, rfl, e2⟩
  rw [List.take_of_length_le (by rw [he0.1]; exact Nat.le_refl _)]
  -- the while
  refine ⟨fun m σ H' => ∃ p rs b4 b5, σ = [some v, some (.int k), some (.ref p), some (.int (prodN rs)), b4, b5, none, none, none, none, none, none, none, none, none, none, none] ∧ Ex H1 H' ∧ IsC H' (.ref p) rs ∧ (∀ r ∈ rs, rOk k 2 r ∧ r.1 ≤ 6) ∧ 1 ≤ rs.length ∧ rs.length ≤ 4 ∧ m = rs.length,
    ⟨_, p0, rs0, _, _, rfl, e2, hC0.mono e2, fun r hr => ⟨hrs0 r hr, (okr0 r hr).2⟩, l0.1, l0.2, rfl⟩, ?_⟩
  rintro m σ H3 ⟨p, rs, b4, b5, rfl, e3, hC, hrs, g1, g4, hm⟩
  obtain ⟨xs, ⟨_, hpe, hp⟩, he⟩ := id hC
  cases hpe
  have hxl := he.1
  obtain ⟨r, hr⟩ : ∃ r, rs[rs.length - 1]? = some r := ⟨_, List.getElem?_eq_getElem (by omega)⟩
  obtain ⟨x, hx, hxR⟩ := he.at hr
  obtain ⟨xa, rfl, hxa⟩ := id hxR
  have hrm := hrs r (List.mem_of_getElem? hr)
  have hrok := (hrm.1.ok (by omega) (by omega) (by decide)).1
  have h1r : ∀ r ∈ rs, 1 ≤ r.1 := fun r hr => by
    have := ((hrs r hr).1.ok (by omega) (by omega) (by decide)).1.1
    omega
  refine ⟨_, rfl, _, _, rfl, rfl, _, rfl, ite2 (fun c => ?_) fun c => ?_⟩
  · have hc : prodN rs > 200 := of_decide_eq_true c
    have epd := prod_drop hr
    have hlen2 : 2 ≤ rs.length := by
      rcases Nat.lt_or_ge 1 rs.length with h | h
      · exact h
      · exfalso
        have e1 : rs.dropLast = [] := List.length_eq_zero_iff.mp (by rw [List.length_dropLast]; omega)
        rw [e1] at epd
        have : prodN [] = 1 := rfl
        rw [this] at epd
        omega
    refine ⟨_, fun σ' H' p => p, ?_⟩
    refine ⟨_, rfl, _, rfl, _, rfl, p, _, _, .ref xa, rfl, rfl, SqT.of hp, atI_m1 (by rw [hxl]; exact hx), xa, _, _, _, rfl, rfl, SqT.of hxa, atI0, _, _, rfl, rfl, ⟨by have := hrok.1; omega, by have := hrok.1; omega⟩, ?_⟩
    refine ⟨_, rfl, _, rfl, -1, rfl, p, _, rfl, SqT.of hp, fun w => absurd w.2 (nocutN (by omega)), fun _ t nt => ?_⟩
    rw [cut_m1]
    have e4 := Ex.new (o := .tup xs.dropLast) nt
    refine ⟨rs.dropLast.length, by rw [List.length_dropLast]; omega, t, rs.dropLast, b4, b5, ?_, e3.trans e4, ⟨_, ⟨t, rfl, upd_same⟩, he.drop1.mono fun x d h => IsT.mono e4 h⟩, fun r hr => hrs r (List.dropLast_subset _ hr), by rw [List.length_dropLast]; omega, by rw [List.length_dropLast]; omega, rfl⟩
    rw [show prodN rs.dropLast = (prodN rs).fdiv r.1 by rw [epd, Int.mul_fdiv_cancel _ (by have := hrok.1; omega)]]
    rfl
  have hc : ¬ prodN rs > 200 := fun z => c (decide_eq_true z)
  clear hm m
  have hrk : ∀ r ∈ rs, rOk k 2 r := fun r hr => (hrs r hr).1
  obtain ⟨okc, hord⟩ := okC_of hrk (by omega) (by omega) g1 (by omega)
  have hd3 := hd.mono (e1.trans e3)
  -- total, rings
  refine ⟨_, rfl, _, rfl, p, _, rfl, .inr (SqT.of hp), _, _, rfl, rfl, .inl ⟨by decide, by decide⟩, v, 2 * (xs.length : Int), rfl, hd3, by omega, by omega, fun t t0 t1 => ?_⟩
  rw [hxl] at t1
  refine ⟨_, rfl, p, _, rfl, .inr (SqT.of hp), by show 2 ≤ sizeLine; decide, fun T0 nT0 => ?_⟩
  have f1 := Ex.new (o := .tup [.int t, .int (xs.length : Int)]) nT0
  refine ⟨T0, _, rfl, SqT.of upd_same, rfl, _, _, rfl, _, _, rfl, rfl, fun dm ndm => ?_⟩
  have f2 := Ex.new (o := .dT []) ndm
  have f12 := f1.trans f2
  have hdm0 : (upd (upd H3 T0 (.tup [.int t, .int (xs.length : Int)])) dm (.dT [])) dm = some (.dT []) := upd_same
  have ndm3 : H3 dm = none := fresh_back f1 ndm
  generalize upd (upd H3 T0 (.tup [.int t, .int (xs.length : Int)])) dm (.dT []) = H4 at f12 hdm0 ⊢
  rw [hxl]
  have alt : ∀ i ≤ rs.length, (allT (rs.take i)).length ≤ 1000 := fun i _ => by
    have h1 := (prod_take rs i h1r).2
    have h2 := allT_prod (rs.take i) fun r hr => h1r r (List.mem_of_mem_take hr)
    omega
  have altn : (allT rs).length ≤ 200 := by
    have h2 := allT_prod rs h1r
    omega
  refine ⟨_, rfl, _, rs, rfl, hC.mono f12, okc, alt, ?_⟩
  rintro _ H5 f5 ⟨zs, ⟨lz, rfl, hlz⟩, hZ⟩
  have hzl : zs.length = (allT rs).length := hZ.1
  have nd5 : H3 dm = none := ndm3
  have hdm5 : H5 dm = some (.dT []) := (f5 dm _ hdm0).1 fun _ z => nomatch z
  refine ⟨lz, rfl, ⟨_, SqL.of hlz⟩, for_it (walk_list (K := K) (xs := zs)) (fun i σ H' => ∃ b4 b5 b9 kvs nss, σ = [some v, some (.int k), some (.ref p), some (.int (prodN rs)), b4, b5, some (.int t), some (.int (rs.length : Int)), some (.ref dm), b9, none, none, none, none, none, none, none] ∧ Ex (upd H5 dm (.dT kvs)) H' ∧ H' dm = some (.dT kvs) ∧
    kvs.map (·.1) = nss.map (fun ns => ns.map Sum.inl) ∧ nss.Nodup ∧ nss.length ≤ i ∧ ∀ l, l ∈ nss ↔ ∃ x ∈ (allT rs).take i, wlevs rs x t k = l) ⟨_, _, _, [], [], rfl, ?_, hdm5, rfl, List.nodup_nil, Nat.le_refl _, fun l => by simp⟩ (fun i σ H' hi ⟨_, _, _, kvs, _, _, e, _⟩ => SqL.of (e.lst (by rw [upd_ne]; exact hlz; intro z; rw [z, hdm5] at hlz; cases hlz))) ?_ ?_⟩
  · rw [upd_id hdm5]
    exact Ex.refl _
  · rintro i x σ H7 H6 hi ⟨b4, b5, b9, kvs, nss, rfl, f6, hdm, hks, hnd, hnl, hmem⟩ ⟨rfl, hx⟩
    have e6 : Ex H3 H6 := ((f12.trans f5).mut ndm3).trans f6
    have tdm : ∀ o, TEx H5 (upd H5 dm o) := fun o p ys h => by
      have : p ≠ dm := fun z => by
        rw [z, hdm5] at h
        cases h
      rw [upd_ne this]
      exact h
    obtain ⟨y, hy, hT⟩ := hZ.at' hx
    have hT6 : IsT H6 x (iv y) := IsT.mono f6 (IsT.tm (tdm _) hT)
    have yl : y.length = rs.length := by
      have := allT_len rs [[]] 0 (by simp) y (List.mem_of_getElem? hy)
      omega
    have hlt : i < (allT rs).length := by omega
    refine ⟨_, rfl, _, rfl, _, rfl, _, rfl, .ref p, x, rs, y, t, k, rfl, hC.mono e6, okc, hord, by omega, by omega, hT6, yl, ?_⟩
    rintro _ H8 f8 ⟨la, rfl, hla⟩
    refine ⟨la, _, rfl, .inl ⟨SqL.of hla, fun tt ntt => ?_⟩⟩
    have f9 := f8.trans (Ex.new (o := .tup (iv (wlevs rs y t k))) ntt)
    have hdm9 : (upd H8 tt (.tup (iv (wlevs rs y t k)))) dm = some (.dT kvs) := (f9 dm _ hdm).1 fun _ z => nomatch z
    have hkl : kvs.length < sizeLine := szl _ (by
      have := congrArg List.length hks
      rw [List.length_map, List.length_map] at this
      omega)
    refine ⟨dm, _, rfl, .inr ⟨kvs, (wlevs rs y t k).map Sum.inl, tt, hdm9, rfl, ?_, hkl, rfl⟩, ?_⟩
    · rw [upd_same, List.map_map]
      rfl
    obtain ⟨pk1, pk2⟩ := putK_keys kvs ((wlevs rs y t k).map Sum.inl) (.int 1)
    have hfin : Ex (upd H5 dm (.dT (putK kvs ((wlevs rs y t k).map Sum.inl) (.int 1)))) (upd (upd H8 tt (.tup (iv (wlevs rs y t k)))) dm (.dT (putK kvs ((wlevs rs y t k).map Sum.inl) (.int 1)))) := fun b o hb => by
      by_cases hbd : b = dm
      · rw [hbd, upd_same] at hb ⊢
        cases hb
        exact ⟨fun _ => rfl, fun ps z => nomatch z⟩
      · rw [upd_ne hbd] at hb ⊢
        exact (f6.trans f9) b o (by rw [upd_ne hbd]; exact hb)
    have hmk : ((wlevs rs y t k).map Sum.inl ∈ kvs.map (·.1)) ↔ wlevs rs y t k ∈ nss := by
      rw [hks, List.mem_map]
      constructor
      · rintro ⟨ns, h1, h2⟩
        rw [← inl_inj h2]
        exact h1
      · intro h
        exact ⟨_, h, rfl⟩
    have htk : ∀ l, (∃ x ∈ (allT rs).take (i + 1), wlevs rs x t k = l) ↔ (∃ x ∈ (allT rs).take i, wlevs rs x t k = l) ∨ wlevs rs y t k = l := fun l => by
      rw [List.take_succ, hy]
      constructor
      · rintro ⟨z, hz, e⟩
        rcases List.mem_append.mp hz with h | h
        · exact .inl ⟨z, h, e⟩
        · have : z = y := by simpa using h
          subst this
          exact .inr e
      · rintro (⟨z, hz, e⟩ | e)
        · exact ⟨z, List.mem_append_left _ hz, e⟩
        · exact ⟨y, List.mem_append_right _ (by simp), e⟩
    by_cases hin : wlevs rs y t k ∈ nss
    · refine ⟨_, _, _, _, nss, rfl, hfin, upd_same, (pk1 (hmk.mpr hin)).trans hks, hnd, by omega, fun l => ?_⟩
      rw [htk, ← hmem]
      constructor
      · exact .inl
      · rintro (h | h)
        · exact h
        · rw [← h]
          exact hin
    · refine ⟨_, _, _, _, nss ++ [wlevs rs y t k], rfl, hfin, upd_same, ?_, ?_, by rw [List.length_append, List.length_singleton]; omega, fun l => ?_⟩
      · rw [pk2 (fun z => hin (hmk.mp z)), hks, List.map_append]
        rfl
      · rw [List.nodup_append]
        refine ⟨hnd, by simp, fun a ha b hb e => ?_⟩
        rw [List.mem_singleton.mp hb] at e
        rw [e] at ha
        exact hin ha
      · rw [htk, ← hmem, List.mem_append, List.mem_singleton]
        exact or_congr Iff.rfl eq_comm
  rintro σ H6 ⟨b4, b5, b9, kvs, nss, rfl, f6, hdm, hks, hnd, hnl, hmem⟩
  have e6 : Ex H3 H6 := ((f12.trans f5).mut ndm3).trans f6
  rw [List.take_of_length_le (by rw [hzl]; exact Nat.le_refl _)] at hmem
  have hg : 1 ≤ rs.length := g1
  generalize hgl : rs.length = g at *
  have t2g : t < 2 * (g : Int) := by omega
  have lbd : ∀ j ≤ k, (levL j g t).length ≤ 10000 := fun j hj => fa2.lev_len k j g t hk2 hj g1 g4 t0 t2g
  -- the levels
  refine ⟨Nat.zero_le _, fun t1 nt1 => ⟨by show 1 ≤ sizeLine; decide, fun l1 nl1 => ?_⟩⟩
  have f7 : Ex H6 (upd (upd H6 t1 (.tup [])) l1 (.lst [.ref t1])) := (Ex.new nt1).trans (Ex.new nl1)
  have h00 : IsLT (upd (upd H6 t1 (.tup [])) l1 (.lst [.ref t1])) (.ref l1) (levL 0 g t) := ⟨[.ref t1], ⟨l1, rfl, upd_same⟩, Each.nil.snoc ⟨t1, rfl, (Ex.new nl1).tup upd_same⟩⟩
  refine ⟨_, rfl, k, rfl, by omega, by omega, ?_⟩
  rw [Int.toNat_natCast]
  refine for_it (walk_range (lo := 0) (n := k)) (fun i σ H' => ∃ b4 b5 b9 u b11 b12 b13 b14, σ = [some v, some (.int k), some (.ref p), some (.int (prodN rs)), b4, b5, some (.int t), some (.int (g : Int)), some (.ref dm), b9, some u, b11, b12, b13, b14, none, none] ∧ Ex H6 H' ∧ IsLT H' u (levL i g t)) ⟨_, _, _, _, _, _, _, _, rfl, f7, h00⟩ (fun _ _ _ _ _ => trivial) ?_ ?_
  · rintro i x σ H7 H8 hi ⟨b4, b5, b9, u, b11, b12, b13, b14, rfl, f8, ws, ⟨l, rfl, hl⟩, hE⟩ ⟨rfl, rfl⟩
    have hb1 := lbd (i + 1) (by omega)
    have hbi := lbd i (by omega)
    have hes : levL (i + 1) g t = extLs g t (levL i g t) := rfl
    rw [hes] at hb1 ⊢
    have hol : ∀ o ∈ levL i g t, o.length ≤ 10 := fun o ho => by
      have := (levL_ok g t t0 i o ho).1
      omega
    have hov : ∀ o ∈ levL i g t, -100 ≤ least g o ∧ least g o ≤ 100 := fun o ho => by
      have := least_in (levL_ok g t t0 i o ho).2 (Int.le_refl _) (by omega) rfl
      omega
    generalize levL i g t = acc at hE hb1 hbi hol hov ⊢
    refine ⟨Nat.zero_le _, fun m nm => ?_⟩
    have f9 := Ex.new (o := .lst []) nm
    have nmH : H6 m = none := fresh_back f8 nm
    refine ⟨_, rfl, l, rfl, ⟨_, SqL.of (f9.lst hl)⟩, for_it (walk_list (K := K) (xs := ws)) (fun j σ H' => ∃ b13 b14 vs, σ = [some v, some (.int k), some (.ref p), some (.int (prodN rs)), b4, b5, some (.int t), some (.int (g : Int)), some (.ref dm), b9, some (.ref l), some (.int (0 + (i : Nat))), some (.ref m), b13, b14, none, none] ∧ Ex H8 H' ∧ H' m = some (.lst vs) ∧ Each (fun v ns => IsT H' v (iv ns)) vs (extLs g t (acc.take j))) ⟨_, _, [], rfl, f9, upd_same, Each.nil⟩ (fun i σ H' hi ⟨_, _, _, _, e, _⟩ => SqL.of (e.lst hl)) ?_ ?_⟩
    · rintro j x σ H9 H10 hj ⟨b13, b14, vs, rfl, f10, hm, hV⟩ ⟨rfl, hx⟩
      obtain ⟨one, hone, hT⟩ := hE.at' hx
      have hoo := List.mem_of_getElem? hone
      have hvo := hov one hoo
      have hlo := hol one hoo
      have es2 : extLs g t (acc.take (j + 1)) = extLs g t (acc.take j) ++ extL g t one := by
        unfold extLs
        rw [List.take_succ, hone, List.flatMap_append]
        simp
      have hle : (extLs g t (acc.take (j + 1))).length ≤ (extLs g t acc).length := by
        have : extLs g t acc = extLs g t (acc.take (j + 1)) ++ extLs g t (acc.drop (j + 1)) := by
          unfold extLs
          rw [← List.flatMap_append, List.take_append_drop]
        rw [this, List.length_append]
        omega
      rw [es2] at hle ⊢
      rw [List.length_append] at hle
      have hT10 := IsT.mono f10 hT
      refine ⟨_, rfl, Nat.zero_le _, fun tt ntt => ?_⟩
      have f11 := Ex.new (o := .tup []) ntt
      obtain ⟨oa, rfl, hoa⟩ := hT10.mono f11
      refine ⟨one, [], ⟨oa, rfl, hoa⟩, ⟨tt, rfl, upd_same⟩, _, rfl, ite2 (fun c => ?one) fun c => ?two⟩
      case' one =>
        have hn : one ≠ [] := by
          intro z
          rw [z] at c
          cases c
        have hpos : 0 < one.length := List.length_pos_iff.mpr hn
        have hlast : (iv one)[(iv one).length - 1]? = some (.int (least g one)) := by
          rw [iv_len]
          refine at_iv ?_
          unfold least
          rw [if_neg hn, List.getD_eq_getElem?_getD, List.getElem?_eq_getElem (by omega)]
          rfl
        refine ⟨_, rfl, _, rfl, oa, _, _, _, rfl, rfl, SqT.of hoa, atI_m1 hlast, ?_⟩
      case' two =>
        have hn : one = [] := by
          by_cases z : one = []
          · exact z
          · exfalso
            apply c
            rw [decide_eq_false z]
            rfl
        have hls : least g one = -(g : Int) - 3 := by
          unfold least
          rw [if_pos hn]
        refine ⟨_, rfl, _, rfl, _, _, rfl, rfl, ?_⟩
        rw [show (fun (i j : Int) => V.int (i - j)) (-(g : Int)) 3 = V.int (least g one) from by rw [hls]]
      all_goals
        have hm11 := f11.lst hm
        refine ⟨_, rfl, .inl ⟨rfl, _, SqL.of hm11⟩, _, rfl, _, rfl, _, rfl, _, _, rfl, rfl, _, _, rfl, rfl, _, _, rfl, ⟨by omega, by omega, by omega, by omega⟩, ?_⟩
        refine lc_all (walk_range (lo := least g one) (n := ((g : Int) + t + 3 - least g one).toNat)) (by omega) (fun _ _ => trivial) (fun H v ns => IsT H v (iv ns)) (fun _ _ _ _ t => IsT.tm t) (fun (e : Nat) => one ++ [least g one + (e : Int)]) (gm1 _) ?_ ?_
        · rintro i2 x2 H11 H12 hi2 f12' ⟨rfl, rfl⟩ S hS
          refine ⟨rfl, _, rfl, _, rfl, by show 1 ≤ sizeLine; decide, fun t2 nt2 => ?_⟩
          have f13 := Ex.new (o := .tup [.int (least g one + (i2 : Nat))]) nt2
          refine ⟨iv one, [.int (least g one + (i2 : Nat))], ⟨oa, rfl, (f12'.trans f13).tup hoa⟩, ⟨t2, rfl, upd_same⟩, sz _ (by rw [iv_len]; show _ + 1 ≤ _; omega), fun z H13 f14 hz => hS _ _ (f13.trans f14) ?_⟩
          show IsT H13 z (List.map V.int (one ++ [least g one + (i2 : Int)]))
          rw [List.map_append]
          exact hz
        · intro D H11 ys nD f12' hD hE5
          have hm12 := f12'.lst hm11
          refine ⟨m, D, vs, ys, rfl, rfl, hm12, hD, ?_, ?_⟩
          · rw [hV.1, hE5.1]
            exact sz _ (by have : (extL g t one).length = ((List.range ((g : Int) + t + 3 - least g one).toNat).map fun (e : Nat) => one ++ [least g one + (e : Int)]).length := rfl; omega)
          have tx : TEx H11 (upd H11 m (.lst (vs ++ ys))) := TEx.lst hm12
          refine ⟨_, _, vs ++ ys, rfl, ((f10.trans f11).trans f12').mut nm, upd_same, ?_⟩
          exact (hV.mono fun v ns h => IsT.tm tx (IsT.mono (f11.trans f12') h)).app (hE5.mono fun v ns h => IsT.tm tx h)
    · rintro σ H9 ⟨b13, b14, vs, rfl, f10, hm, hV⟩
      rw [List.take_of_length_le (by rw [← hE.1]; exact Nat.le_refl _)] at hV
      refine ⟨_, rfl, m, _, rfl, .inl (SqL.of hm), fun l2 nl2 => ?_⟩
      have f11 := Ex.new (o := .lst vs) nl2
      exact ⟨_, _, _, _, _, _, _, _, rfl, (f8.trans f10).trans f11, vs, ⟨l2, rfl, upd_same⟩, hV.mono fun v ns h => IsT.mono f11 h⟩
  rintro σ H7 ⟨b4, b5, b9, u, b11, b12, b13, b14, rfl, f8, ws, ⟨l, rfl, hl⟩, hE⟩
  have hbk := lbd k (Nat.le_refl _)
  have hok := levL_ok g t t0 k
  have hdef : dueL k g t = (levL k g t).filter (dueB k g t) := rfl
  generalize hacc : levL k g t = acc at hE hbk hok hdef
  have hwl : ws.length = acc.length := hE.1
  -- the levels that are due
  refine ⟨_, rfl, l, rfl, ⟨_, SqL.of hl⟩, lc_go (walk_list (K := K) (xs := ws)) (by omega) (fun H' e => SqL.of (e.lst hl)) (fun H v ns => IsT H v (iv ns)) (fun _ _ _ _ t => IsT.tm t) (fun j => dueB k g t (acc.getD j default)) (fun j => acc.getD j default) ?_ ?_⟩
  · rintro j x H8 H9 hj f9 ⟨rfl, hx⟩ F S hF hS
    obtain ⟨one, hone, hT⟩ := hE.at' hx
    have hT9 := IsT.mono f9 hT
    have hol := (hok one (List.mem_of_getElem? hone)).1
    have hgd : acc.getD j default = one := by
      rw [List.getD_eq_getElem?_getD, hone]
      rfl
    rw [hgd] at hF hS
    obtain ⟨oa, rfl, hoa⟩ := id hT9
    refine ⟨rfl, ?_⟩
    refine ⟨_, rfl, oa, one, rfl, hoa, _, rfl, _, _, rfl, rfl, _, rfl, _, _, rfl, rfl, _, rfl, _, _, rfl, rfl, rfl, _, rfl, ite2 (fun c => ?_) fun c => ?_⟩
    · have c1 : one.sum = t + 1 - g - k := V.int.inj (of_decide_eq_true c)
      refine ⟨_, rfl, _, one, rfl, hT9, by omega, ?_⟩
      rintro _ H10 f10 rfl
      refine ⟨_, rfl, _, _, rfl, rfl, _, rfl, ite2 (fun c2 => ?_) fun c2 => ?_⟩
      · refine ⟨_, rfl, hS ?_ _ _ f10 (IsT.mono f10 hT9)⟩
        unfold dueB
        rw [decide_eq_true c1, show decide (ldist one ≤ (g : Int)) = true from c2]
        rfl
      · refine hF ?_ _ f10
        unfold dueB
        rw [show decide (ldist one ≤ (g : Int)) = false from Bool.eq_false_iff.mpr c2, Bool.and_false]
    · refine hF ?_ _ (Ex.refl _)
      unfold dueB
      rw [decide_eq_false (fun z => c (decide_eq_true (congrArg V.int z))), Bool.false_and]
  intro Dd H8 ds nDd f9 hDd hEd
  have hEd2 : Each (fun v ns => IsT H8 v (iv ns)) ds (dueL k g t) := by
    have := giv_filter acc (dueB k g t) (fun b => b)
    rw [List.map_id'] at this
    rw [hdef, ← this, ← hwl]
    exact hEd
  have hdm8 : H8 dm = some (.dT kvs) := ((f8.trans f9) dm _ hdm).1 fun _ z => nomatch z
  have hdlt := fa2.due_lt k g t hk2 g1 g4 t0 t2g
  have hmd := fa2.met_due k rs t hk2 hrk (by omega) (by omega) t0 (by omega)
  have hdm2 := fa2.due_met k rs t hk2 hrk (by omega) (by omega) t0 (by omega)
  rw [hgl] at hmd hdm2
  have hdo := fa2.due_ok k g t hk2 g1 g4 t0 t2g
  have hmem2 : ∀ l, l ∈ nss ↔ l ∈ dueL k g t := fun l => by
    rw [hmem]
    constructor
    · rintro ⟨x, hx, rfl⟩
      exact hmd x hx
    · exact hdm2 l
  have hdnd : (dueL k g t).Nodup := hdlt.imp fun {a b} h e => by
    rw [e] at h
    exact List.lt_irrefl _ h
  have hpm : nss.Perm (dueL k g t) := (List.perm_ext_iff_of_nodup hnd hdnd).mpr hmem2
  refine ⟨_, rfl, dm, kvs, nss, rfl, hdm8, hks, fun ns hns z => ?_, by omega, fun sp ts nss' nsp hperm hpw hEs => ?_⟩
  · have := (hdo ns ((hmem2 ns).mp hns)).1.1
    rw [z] at this
    simp at this
  have f10 := Ex.new (o := .lst ts) nsp
  have hnss : nss' = dueL k g t := List.Perm.eq_of_pairwise (le := (· ≤ ·)) (fun a b _ _ h1 h2 => List.le_antisymm h1 h2) hpw (hdlt.imp fun {a b} h => List.le_of_lt h) (hperm.trans hpm)
  refine ⟨_, rfl, ts, ds, nss', dueL k g t, ⟨sp, rfl, upd_same⟩, ⟨Dd, rfl, f10.lst hDd⟩, hEs.mono fun v ns h => IsT.mono f10 h, hEd2.mono fun v ns h => IsT.mono f10 h, _, rfl, ?_⟩
  rw [decide_eq_true hnss]
  refine iteT ?_
  have hDd10 := f10.lst hDd
  refine ⟨_, rfl, Dd, rfl, ⟨_, SqL.of hDd10⟩, lc_go (walk_list (K := K) (xs := ds)) (by rw [hEd2.1, hdef]; exact Nat.le_trans (List.length_filter_le _ _) (by omega)) (fun H' e => SqL.of (e.lst hDd10)) (fun _ _ (_ : Unit) => True) (fun _ _ _ _ _ h => h) (fun _ => false) (fun _ => ()) ?_ ?_⟩
  · rintro j x H9 H10 hj f11 ⟨rfl, hx⟩ F S hF hS
    obtain ⟨one, hone, hT⟩ := hEd2.at' hx
    obtain ⟨ok1, ok2⟩ := hdo one (List.mem_of_getElem? hone)
    refine ⟨rfl, ?_⟩
    refine ⟨_, rfl, _, rfl, (g : Int), _, one, rfl, by omega, by omega, IsT.mono (f10.trans f11) hT, ok1, ?_⟩
    rintro _ H11 f12' rfl
    rw [decide_eq_true ok2]
    exact ⟨_, rfl, iteF (hF rfl _ f12')⟩
  · intro D H9 ys nD f11 hD hE5
    have ye : ys = [] := by
      have : ys.length = 0 := by
        rw [hE5.1]
        unfold giv
        simp
      exact List.length_eq_zero_iff.mp this
    subst ye
    refine ⟨Nat.zero_le _, fun e0l ne0 => ?_⟩
    have f12' := Ex.new (o := .lst []) ne0
    refine ⟨[], [], ⟨D, rfl, f12'.lst hD⟩, ⟨e0l, rfl, upd_same⟩, ?_⟩
    refine q _ _ ((((((e1.trans e3).trans e6).trans f8).trans f9).trans f10).trans (f11.trans f12')) ?_
    rfl
end K7

set_option Elab.async false
set_option linter.all false
set_option maxRecDepth 100000
set_option maxHeartbeats 4000000
namespace K7
open PySem PySem.Spec PyProof.Rows L2
variable {P : Program} {w : World} {K : PySem.W.Frag} {mg : Str → Option Value} {base : Heap}
def sp_law (K : PySem.W.Frag) : Sp := fun vs H Q _ => ∃ (a : Addr) (ns : List Int), vs = [.ref a] ∧ SqL K H a (iv ns) ∧ GxR.TabG H (tL K) ∧ ∀ H', Q (.bl true) H'
theorem sc_law : FnScope ["_law_script", "_law_at", "_law_dice_here", "_law_k"] ["_law_script"] (defScope s_law) := ⟨rfl, rfl, rfl, by decide +kernel, rfl, by decide +kernel, by decide +kernel⟩
theorem ok_mk {f : Addr} {fd : FuncData} {x : Str} {st : Stmt} {N ps : List Str} {k : Nat} {sp : Sp} (F : FnP K x st f fd) (S : FnScope N ps (defScope st)) (len : ∀ vs H Q E, sp vs H Q E → vs.length = ps.length)
    (hbody : ∀ (cdv : Value) (A : Around) (outer : List Env) (s : Shared) (H : Hp) (vs : List V) (Q : VK) (E : XK), Room k (A.deeper (envOfC x (defScope st) s.heap.objs.size f cdv)) → sp vs H Q E →
      ∃ t, PSs (cxOf CX0 P w K mg base N x (defScope st) f cdv A outer s H E).nox (defBody st) t ∧ t { nx := fun _ H' => Q .non H', rt := Q } (start N vs) H) : FnOk P w K mg base CX0 (k + 1) f fd ps sp :=
  F.ok S len fun cdv A outer s H vs Q E hr hs => by
    obtain ⟨t, p, q⟩ := hbody cdv A outer s H vs Q E hr hs
    exact ⟨t, p.nox, q⟩
theorem ok_law {f : Addr} {fd : FuncData} (F : FnP K "law" s_law f fd) (T : Top K mg) (h_L_dice : Has P w K mg base "_law_dice" 1 ["_law_script", "_law_at"] (sp_L_dice K)) (h_L_roll : Has P w K mg base "_law_roll" 1 ["_law_dice_here", "_law_total"] sp_L_roll)
    (h_L_drawn_levels : Has P w K mg base "_law_drawn_levels" 3 ["_law_dice_here", "_law_k"] sp_L_drawn_levels) (h_L_met_right : Has P w K mg base "_law_met_right" 9 ["_law_dice_here", "_law_k", "_law_levels_here"] (sp_L_met_right K))
    (h_L_all_right : Has P w K mg base "_law_all_right" 6 ["_law_dice_here"] sp_L_all_right) : FnOk P w K mg base CX0 10 f fd ["_law_script"] (sp_law K) := by
  refine ok_mk F sc_law ?len fun cdv A outer s H vs Q E hr h => ?main
  case len =>
    rintro vs H Q E ⟨a, ns, rfl, _⟩
    rfl
  obtain ⟨a, ns, rfl, hS, hT, q⟩ := h
  refine ⟨_, (pss_cons (ps_for PassesOwn.never rfl (pi_range1 (by rfl) T.m_range (pa_cons (pe_callB (call_max2 rfl) (by rfl) T.m_max (by decide +kernel) (pa_cons pe_int (pa_cons (pe_callB (call_min2 rfl) (by rfl) T.m_min (by decide +kernel) (pa_cons (pe_callB call_len_seq (by rfl) T.m_len PySem.boot_len (pa_cons (pv 0) pa_nil)) (pa_cons pe_int pa_nil))) pa_nil))) pa_nil)) (pg_name (i := 1) sc_law.nd rfl (by first | exact Or.inl rfl | exact Or.inr rfl)) (pss_cons (ps_set (i := 2) sc_law.nd rfl (by first | exact Or.inl rfl | exact Or.inr rfl) (pe_has h_L_dice (hr.mono (by decide)) (pa_cons (pv 0) (pa_cons (pv 1) pa_nil)))) (pss_cons (ps_set (i := 3) sc_law.nd rfl (by first | exact Or.inl rfl | exact Or.inr rfl) (pe_op op_add pe_int (pe_has h_L_roll (hr.mono (by decide)) (pa_cons (pv 2) (pa_cons pe_int pa_nil))))) (pss_one (ps_if (pt_not (pt_val (pe_has h_L_met_right (hr.mono (by decide)) (pa_cons (pv 2) (pa_cons (pv 3) (pa_cons (pe_has h_L_drawn_levels (hr.mono (by decide)) (pa_cons (pv 2) (pa_cons (pv 3) pa_nil))) pa_nil)))))) (pss_one (ps_ret pe_bl)) pss_nil))))) (pss_one (ps_ret (pe_has h_L_all_right (hr.mono (by decide)) (pa_cons (pe_has h_L_dice (hr.mono (by decide)) (pa_cons (pv 0) (pa_cons pe_int pa_nil))) pa_nil))))), ?_⟩
  refine ⟨_, rfl, a, _, rfl, .inl hS, _, _, rfl, _, _, rfl, ?_⟩
  have hM : ∃ M : Nat, (if (if (3 : Int) < ((iv ns).length : Int) then 3 else ((iv ns).length : Int)) > 1 then (if (3 : Int) < ((iv ns).length : Int) then 3 else ((iv ns).length : Int)) else 1) = (M : Int) ∧ M ≤ 3 :=
    ⟨(if (if (3 : Int) < ((iv ns).length : Int) then 3 else ((iv ns).length : Int)) > 1 then (if (3 : Int) < ((iv ns).length : Int) then 3 else ((iv ns).length : Int)) else 1).toNat, by split <;> split <;> omega, by split <;> split <;> omega⟩
  obtain ⟨M, eM, hM3⟩ := hM
  rw [eM]
  refine ⟨_, rfl, by omega, by omega, ?_⟩
  rw [Int.toNat_natCast]
  refine for_it (walk_range (lo := 0) (n := M)) (fun i σ H' => ∃ b1 b2 b3, σ = [some (.ref a), b1, b2, b3] ∧ Ex H H') ⟨none, none, none, rfl, Ex.refl _⟩ (fun _ _ _ _ _ => trivial) ?_ ?_
  · rintro i x σ H1 H2 hi ⟨b1, b2, b3, rfl, e1⟩ ⟨rfl, rfl⟩
    refine ⟨_, rfl, _, rfl, a, ns, 0 + (i : Nat), rfl, e1.seq hS, by omega, by omega, ?_⟩
    rintro dv H3 e3 hd
    refine ⟨_, rfl, dv, 6, rfl, hd, by decide, by decide, fun r r0 r1 => ⟨_, _, rfl, rfl, ?_⟩⟩
    obtain ⟨k, hk, k2, k7⟩ : ∃ k : Nat, (2 : Int) + r = (k : Int) ∧ 2 ≤ k ∧ k ≤ 7 := ⟨(2 + r).toNat, by omega, by omega, by omega⟩
    rw [show (fun (i j : Int) => V.int (i + j)) 2 r = V.int (k : Int) from congrArg V.int hk]
    refine ⟨_, rfl, _, rfl, _, rfl, _, rfl, dv, k, rfl, hd, k2, k7, ?_⟩
    rintro u H4 e4 ⟨ls, hU, hdr⟩
    refine ⟨dv, u, k, ls, rfl, hd.mono e4, k2, k7, hU, hdr, (e1.trans (e3.trans e4)).tab hT, ?_⟩
    rintro _ H5 e5 rfl
    exact ⟨_, rfl, iteF ⟨_, _, _, rfl, (e1.trans (e3.trans e4)).trans e5⟩⟩
  · rintro σ H1 ⟨b1, b2, b3, rfl, e1⟩
    refine ⟨_, rfl, a, ns, 0, rfl, e1.seq hS, by decide, by decide, ?_⟩
    rintro dv H3 e3 hd
    refine ⟨dv, rfl, hd, ?_⟩
    rintro _ H4 e4 rfl
    exact q _
end K7

set_option Elab.async false
set_option linter.all false
set_option maxRecDepth 100000
set_option maxHeartbeats 4000000
namespace K7
open PySem PySem.Spec PyProof.Rows L2
theorem fa_1 {i : Nat} {f : He.Fa} (h : fa1[i]? = some f) : ∃ j : Nat, fa[j]? = some f := ⟨i, by
  unfold fa
  rw [List.getElem?_append_left (List.getElem?_eq_some_iff.mp h).1]
  exact h⟩
theorem fa_2 {i : Nat} {f : He.Fa} (h : fa2[i]? = some f) : ∃ j : Nat, fa[j]? = some f := ⟨fa1.length + i, by
  unfold fa
  rw [List.getElem?_append_right (Nat.le_add_right _ _), Nat.add_sub_cancel_left, List.getElem?_append_left (List.getElem?_eq_some_iff.mp h).1]
  exact h⟩
theorem fa_3 {i : Nat} {f : He.Fa} (h : fa3[i]? = some f) : ∃ j : Nat, fa[j]? = some f := ⟨fa1.length + (fa2.length + i), by
  unfold fa
  rw [List.getElem?_append_right (Nat.le_add_right _ _), Nat.add_sub_cancel_left, List.getElem?_append_right (Nat.le_add_right _ _), Nat.add_sub_cancel_left]
  exact h⟩
theorem top_of {w : World} {K : PySem.W.Frag} {h : Heap} {mg : Str → Option Value} (X : K.In h) (G : h.Ns mainGlobals mg) (c : He.SaysX fa fn [] tf ex w h K) : Top K mg where
  fns := fun i d hd => c.t.d.def_ i hd
  glo := fun i x hi => by
    obtain ⟨j, hj⟩ := fa_1 hi
    exact He.glo_ok X G (c.t.d.fact j hj)
  fre := fun i x hi => by
    obtain ⟨j, hj⟩ := fa_2 hi
    exact He.free_ok X G (c.t.d.fact j hj)
  nums := fun i x n hi => by
    obtain ⟨j, hj⟩ := fa_3 hi
    exact He.int_ok X G (c.t.d.fact j hj)
  gcd := PySem.W.mg_of X G (of_decide_eq_true c.more)
section
variable {P : Program} {w : World} {K : PySem.W.Frag} {mg : Str → Option Value} {base : Heap}
theorem law_ok {f : Addr} {fdl : FuncData} (F : FnP K "law" s_law f fdl) (T : Top K mg) (TB : GxR.TabB base mg (cL K) (tL K)) (fc : Facts) (fd : Facts2) : FnOk P w K mg base CX0 10 f fdl ["_law_script"] (sp_law K) := by
  have a_is_whole := h_is_whole (P := P) (w := w) (base := base) T 
  have a_is_integer := h_is_integer (P := P) (w := w) (base := base) T a_is_whole
  have a_is_within := h_is_within (P := P) (w := w) (base := base) T a_is_whole
  have a_is_ring_in := h_is_ring_in (P := P) (w := w) (base := base) T a_is_within
  have a_is_chain_in := h_is_chain_in (P := P) (w := w) (base := base) T a_is_ring_in
  have a_order_in := h_order_in (P := P) (w := w) (base := base) T 
  have a_value_in_round := h_value_in_round (P := P) (w := w) (base := base) T 
  have a_does_fall := h_does_fall (P := P) (w := w) (base := base) T a_value_in_round
  have a_letter_behind := h_letter_behind (P := P) (w := w) (base := base) T 
  have a_is_level := h_is_level (P := P) (w := w) (base := base) T a_is_whole
  have a_is_levels_in := h_is_levels_in (P := P) (w := w) (base := base) T a_is_level
  have a_level_sum := h_level_sum (P := P) (w := w) (base := base) T 
  have a_missing_sum := h_missing_sum (P := P) (w := w) (base := base) T 
  have a_distance_in := h_distance_in (P := P) (w := w) (base := base) T 
  have a_common_order := h_common_order (P := P) (w := w) (base := base) T a_is_chain_in a_order_in
  have a_heap_of_boxes := h_heap_of_boxes (P := P) (w := w) (base := base) T 
  have a_core_in := h_core_in (P := P) (w := w) (base := base) T a_level_sum a_missing_sum a_heap_of_boxes
  have a_corner_rests := h_corner_rests (P := P) (w := w) (base := base) T 
  have a_without_rest := h_without_rest (P := P) (w := w) (base := base) T 
  have a_letters_down := h_letters_down (P := P) (w := w) (base := base) T a_corner_rests a_without_rest
  have a_class_in_levels := h_class_in_levels (P := P) (w := w) (base := base) T a_distance_in a_core_in a_letters_down
  have a_is_tuple_in := h_is_tuple_in (P := P) (w := w) (base := base) T a_is_within
  have a_let_rest := h_let_rest (P := P) (w := w) (base := base) T TB
  have a_levels_in := h_levels_in (P := P) (w := w) (base := base) T a_order_in a_let_rest a_does_fall a_letter_behind a_value_in_round
  have a_require_levels := h_require_levels (P := P) (w := w) (base := base) T a_is_levels_in
  have a_require_even_chain := h_require_even_chain (P := P) (w := w) (base := base) T a_common_order
  have a_require_levels_of := h_require_levels_of (P := P) (w := w) (base := base) T a_require_even_chain a_require_levels a_order_in
  have a_distance := h_distance (P := P) (w := w) (base := base) T a_require_levels a_distance_in
  have a_can_be_met := h_can_be_met (P := P) (w := w) (base := base) T a_is_within a_require_levels a_distance_in
  have a_class_with_levels := h_class_with_levels (P := P) (w := w) (base := base) T a_require_levels_of a_class_in_levels
  have a_has_levels := h_has_levels (P := P) (w := w) (base := base) T a_require_levels_of a_is_integer a_is_tuple_in a_levels_in
  have a_L_dice := h_L_dice (P := P) (w := w) (base := base) T 
  have a_L_roll := h_L_roll (P := P) (w := w) (base := base) T 
  have a_L_one_of := h_L_one_of (P := P) (w := w) (base := base) T a_L_roll
  have a_L_common := h_L_common (P := P) (w := w) (base := base) T 
  have a_L_order := h_L_order (P := P) (w := w) (base := base) T a_L_common
  have a_L_ring_of := h_L_ring_of (P := P) (w := w) (base := base) T a_L_roll a_L_common a_L_one_of
  have a_L_equal_chain := h_L_equal_chain (P := P) (w := w) (base := base) T a_L_ring_of
  have a_L_tuple := h_L_tuple (P := P) (w := w) (base := base) T a_L_roll
  have a_L_map := h_L_map (P := P) (w := w) (base := base) T 
  have a_L_levels := h_L_levels (P := P) (w := w) (base := base) T a_L_order a_L_map
  have a_L_distance := h_L_distance (P := P) (w := w) (base := base) T 
  have a_L_all_tuples := h_L_all_tuples (P := P) (w := w) (base := base) T 
  have a_L_drawn_levels := h_L_drawn_levels (P := P) (w := w) (base := base) T a_L_roll a_L_one_of
  have a_L_met_right := h_L_met_right (P := P) (w := w) (base := base) T fc a_L_distance a_L_roll a_L_equal_chain a_can_be_met a_class_with_levels a_L_levels a_L_tuple a_has_levels a_distance
  have a_L_all_right := h_L_all_right (P := P) (w := w) (base := base) T fd fc a_L_roll a_L_equal_chain a_L_all_tuples a_L_levels a_L_distance a_can_be_met
  exact ok_law F T a_L_dice a_L_roll a_L_drawn_levels a_L_met_right a_L_all_right
end
theorem law_at {w : World} {mg : Str → Option Value} {fa0 : Addr} {h : Heap} {K : PySem.W.Frag} (fc : Facts) (fd : Facts2) (X : K.In h) (c : He.SaysX fa fn [] tf ex w h K) (G : h.Ns mainGlobals mg) (hfa : mg ("law" : Str) = some (.ref fa0)) :
    LamX.LawAtS PySem.Challenge.rw_ringstairs_k70_whole_levels_that_can_be w K CX0 10 63 "_law_script" mg fa0 h := by
  have T := top_of X G c
  obtain ⟨fdl, Fl⟩ := T.fns 46 _ rfl
  have e := hfa.symm.trans (T.glo 46 "law" rfl)
  cases e
  have b := FunD.bindsA (ps := ["_law_script"]) Fl fun _ _ _ _ _ _ us hl => match us, hl with | [_], _ => rfl
  refine ⟨fdl, [He.cT K ("let_rest", none)], sp_law K, fun p hp => ?_, fun p hp => ?_, fun p hp => ?_, fun s u => b s [u] rfl, fun H a ns _ _ hH hS => ?_, fun base _ _ hTB => ?_⟩
  · rw [List.mem_singleton.mp hp]
    exact c.empty _ List.mem_cons_self
  · rw [List.mem_singleton.mp hp]
    exact c.out _ List.mem_cons_self
  · rw [List.mem_singleton.mp hp]
    exact PySem.W.codeHd_of_K X (c.hd _ List.mem_cons_self)
  · exact ⟨a, ns, rfl, hS, ⟨#[], hH _ List.mem_cons_self, by unfold TriplesOk; simp⟩, fun _ => rfl⟩
  · have hb := hTB _ List.mem_cons_self
    exact law_ok (P := PySem.Challenge.rw_ringstairs_k70_whole_levels_that_can_be.prog) (w := w) (base := base) Fl T ⟨hb.code, hb.bm, hb.gP⟩ fc fd
end K7
open PySem PySem.W PySem.Calls PyProof.Rows
theorem K7.holds (fc : K7.Facts) (fd : K7.Facts2) : PySem.Challenge.rw_ringstairs_k70_whole_levels_that_can_be.Holds := by
  w_on; o_law
  refine HandSHeadRun.head_imp (r := OpenLaw.row PySem.Challenge.rw_ringstairs_k70_whole_levels_that_can_be) (q := view (OpenLaw.row PySem.Challenge.rw_ringstairs_k70_whole_levels_that_can_be).prog [0, 64]) (H := K7.hdK) (ob := K7.hdOb) (M := 8000) (loose := K7.loose1 ++ K7.loose2)
    (d := HandSHeadRun.topDef (OpenLaw.row PySem.Challenge.rw_ringstairs_k70_whole_levels_that_can_be).prog 64) (kwd := []) K7.hdOb_eq K7.hdRun
    (by kernel_rfl) (by kernel_rfl) (by kernel_rfl) (by rfl) (by first | assumption | decide +kernel) (by decide +kernel) ⟨rfl, rfl, rfl, rfl, rfl, by decide +kernel⟩ ?hw ?hc
  case hw => w_witness2
  case hc =>
    refine LamX.walk_ofTsE (l := PySem.Challenge.rw_ringstairs_k70_whole_levels_that_can_be) (n := 63) (k := 10) (x := "_law_script") (CX := fun _ => L2.CX0) rfl (by decide) (by kernel_rfl) ⟨rfl, by decide, by decide⟩ ?F (fun _ _ _ _ _ z => z)
    intro w mg fa0 h Y G hmg0
    obtain ⟨K, KX, c⟩ := Y
    have hmg : mg ("law" : PySem.Str) = some (.ref fa0) := by
      have e : (HandSHeadRun.topDef (OpenLaw.row PySem.Challenge.rw_ringstairs_k70_whole_levels_that_can_be).prog 64).name = ("law" : PySem.Str) := by kernel_rfl
      rw [← e]
      exact hmg0
    exact ⟨K, KX, K7.law_at fc fd KX c G hmg⟩

set_option Elab.async false
set_option linter.all false
set_option maxRecDepth 100000
set_option maxHeartbeats 4000000
/-! THE PLAIN LAW: the map as a function on all numbers. -/
namespace K7
/-- one letter done on a function -/
def stepF (k : Int) (c : Int) (f : Int → Int) (i : Int) : Int :=
  if (i - c) % k = 0 then max (f i) (f (i + 1)) else if (i - 1 - c) % k = 0 then min (f (i - 1)) (f i) else f i
theorem vir_em {ns : List Int} {k : Int} (hk : (ns.length : Int) = k) (h : 0 < k) (i : Int) : vir ns i = nth ns (i % k) + i - i % k := by
  unfold vir
  rw [hk, Int.fmod_eq_emod_of_nonneg _ (by omega)]
theorem em_eq {i c k : Int} (h0 : 0 ≤ c) (h1 : c < k) : (i - c) % k = 0 ↔ i % k = c := by
  constructor
  · intro h
    have h2 : i % k = c % k := Int.emod_eq_emod_iff_emod_sub_eq_zero.mpr h
    rw [h2, Int.emod_eq_of_lt h0 h1]
  · intro h
    rw [← Int.emod_eq_emod_iff_emod_sub_eq_zero, h, Int.emod_eq_of_lt h0 h1]
theorem em_next {i k : Int} (hk : 0 < k) : (i % k = k - 1 ∧ (i + 1) % k = 0) ∨ (i % k < k - 1 ∧ (i + 1) % k = i % k + 1) := by
  have h0 := Int.emod_nonneg i (show k ≠ 0 by omega)
  have h1 := Int.emod_lt_of_pos i hk
  have e : (i + 1) % k = (i % k + 1) % k := by rw [Int.emod_add_emod]
  rcases Int.lt_or_le (i % k) (k - 1) with h | h
  · right
    refine ⟨h, ?_⟩
    rw [e, Int.emod_eq_of_lt (by omega) (by omega)]
  · left
    have h2 : i % k = k - 1 := by omega
    refine ⟨h2, ?_⟩
    rw [e, h2, Int.sub_add_cancel, Int.emod_self]
theorem nth_set {ns : List Int} {a b : Int} {x : Int} (ha : 0 ≤ a) (ha2 : a < ns.length) (hb : 0 ≤ b) : nth (ns.set a.toNat x) b = if b = a then x else nth ns b := by
  unfold nth
  rw [List.getD_eq_getElem?_getD, List.getD_eq_getElem?_getD, List.getElem?_set]
  by_cases h : b = a
  · rw [if_pos h, if_pos (by rw [h]), if_pos (by omega)]
    rfl
  · rw [if_neg h, if_neg (by omega)]
theorem nth_lb {ns : List Int} {k c b : Int} (hk : (ns.length : Int) = k) (k2 : 2 ≤ k) (c0 : 0 ≤ c) (c1 : c < k) (b0 : 0 ≤ b) (b1 : b < k) :
    nth (lb ns c) b = if c < k - 1 then (if b = c then nth ns (c + 1) else if b = c + 1 then nth ns c else nth ns b) else (if b = k - 1 then nth ns 0 + k else if b = 0 then nth ns (k - 1) - k else nth ns b) := by
  unfold lb
  rw [hk]
  by_cases h : c < k - 1
  · rw [if_pos h, if_pos h, nth_set (by omega) (by rw [List.length_set]; omega) b0, nth_set c0 (by omega) b0]
    by_cases h1 : b = c + 1
    · rw [if_pos h1, if_neg (by omega), if_pos h1]
    · rw [if_neg h1]
      by_cases h2 : b = c
      · rw [if_pos h2, if_pos h2]
      · rw [if_neg h2, if_neg h2, if_neg h1]
  · rw [if_neg h, if_neg h]
    have hc : c = k - 1 := by omega
    subst hc
    have e0 : (0 : Nat) = (0 : Int).toNat := rfl
    rw [e0, nth_set (by omega) (by rw [List.length_set]; omega) b0, nth_set c0 (by omega) b0]
    by_cases h1 : b = 0
    · rw [if_pos h1, if_neg (by omega), if_pos h1]
    · rw [if_neg h1]
      by_cases h2 : b = k - 1
      · rw [if_pos h2, if_pos h2]
      · rw [if_neg h2, if_neg h2, if_neg h1]
theorem step_vir {ns : List Int} {k c : Int} (hk : (ns.length : Int) = k) (k2 : 2 ≤ k) (c0 : 0 ≤ c) (c1 : c < k) (i : Int) : vir (if falls ns c then ns else lb ns c) i = stepF k c (vir ns) i := by
  have hk0 : 0 < k := by omega
  have hl : ((if falls ns c then ns else lb ns c).length : Int) = k := by
    split
    · exact hk
    · rw [lb_len, hk]
  have hfl : falls ns c = decide (vir ns (c + 1) < nth ns c) := rfl
  rw [vir_em hl hk0]
  unfold stepF
  have q1 := em_eq (i := i) c0 c1
  have q2 := em_eq (i := i - 1) c0 c1
  have v0 := vir_em hk hk0 i
  have v1 := vir_em hk hk0 (i + 1)
  have v2 := vir_em hk hk0 (i - 1)
  have vc := vir_em hk hk0 (c + 1)
  have n1 := em_next (i := i) hk0
  have n2 := em_next (i := i - 1) hk0
  have n3 := em_next (i := c) hk0
  rw [Int.emod_eq_of_lt c0 c1] at n3
  rw [Int.sub_add_cancel] at n2
  have h0 := Int.emod_nonneg i (show k ≠ 0 by omega)
  have h1 := Int.emod_lt_of_pos i hk0
  have g0 := Int.emod_nonneg (i - 1) (show k ≠ 0 by omega)
  have lbv := nth_lb (c := c) (b := i % k) hk k2 c0 c1 h0 h1
  rw [vc] at hfl
  generalize i % k = r at *
  generalize (i + 1) % k = r1 at *
  generalize (i - 1) % k = r2 at *
  generalize (c + 1) % k = rc at *
  by_cases a1 : r = c
  · rw [if_pos (q1.mpr a1), v0, v1, hfl]
    subst a1
    have er : r1 = rc := by omega
    subst er
    by_cases f : nth ns r1 + (r + 1) - r1 < nth ns r
    · rw [decide_eq_true f, if_pos rfl]
      omega
    · rw [decide_eq_false f, if_neg Bool.false_ne_true, lbv]
      by_cases hc : r < k - 1
      · rw [if_pos hc, if_pos rfl]
        have : r1 = r + 1 := by omega
        subst this
        omega
      · rw [if_neg hc, if_pos (by omega)]
        have : r1 = 0 := by omega
        subst this
        omega
  rw [if_neg (fun z => a1 (q1.mp z))]
  by_cases a2 : r2 = c
  · rw [if_pos (q2.mpr a2), v0, v2, hfl]
    subst a2
    have er : r = rc := by omega
    subst er
    by_cases f : nth ns r + (r2 + 1) - r < nth ns r2
    · rw [decide_eq_true f, if_pos rfl]
      omega
    · rw [decide_eq_false f, if_neg Bool.false_ne_true, lbv]
      by_cases hc : r2 < k - 1
      · rw [if_pos hc, if_neg a1, if_pos (by omega)]
        omega
      · rw [if_neg hc, if_neg (by omega), if_pos (by omega)]
        have : r2 = k - 1 := by omega
        subst this
        omega
  rw [if_neg (fun z => a2 (q2.mp z)), v0]
  cases hb : falls ns c with
  | true => rfl
  | false =>
    rw [if_neg Bool.false_ne_true, lbv]
    by_cases hc : c < k - 1
    · rw [if_pos hc, if_neg a1, if_neg (by omega)]
    · rw [if_neg hc, if_neg (by omega), if_neg (by omega)]
end K7

set_option Elab.async false
set_option linter.all false
set_option maxRecDepth 100000
set_option maxHeartbeats 4000000
/-! THE PLAIN LAW: the letter of a ring with a place. -/
namespace K7
theorem fmod_dvd {a b : Int} (h : 0 < b) : a.fmod b = 0 ↔ b ∣ a := by
  rw [Int.fmod_eq_emod_of_nonneg _ (by omega)]
  exact (Int.dvd_iff_emod_eq_zero).symm
theorem let_period {k m s x : Int} (i : Int) : (k * m ∣ i * (m * s) + x) ↔ k * m ∣ (i % k) * (m * s) + x := by
  have e : i * (m * s) + x = (i % k) * (m * s) + x + k * m * (s * (i / k)) := by
    have h := Int.emod_add_mul_ediv i k
    have : i * (m * s) = (i % k + k * (i / k)) * (m * s) := by rw [h]
    rw [this, Int.add_mul]
    have e2 : k * (i / k) * (m * s) = k * m * (s * (i / k)) := by
      rw [Int.mul_assoc k, Int.mul_assoc k]
      congr 1
      rw [Int.mul_comm (i / k), Int.mul_assoc]
    rw [e2]
    omega
  rw [e]
  exact Int.dvd_add_left (Int.dvd_mul_right _ _)
theorem let_one {k m s x i j : Int} (hm : 1 ≤ m) (g : gcdI k s = 1) (h1 : k * m ∣ i * (m * s) + x) (h2 : k * m ∣ j * (m * s) + x) : k ∣ i - j := by
  have h3 : k * m ∣ (i - j) * s * m := by
    have := Int.dvd_sub h1 h2
    have e : i * (m * s) + x - (j * (m * s) + x) = (i - j) * s * m := by
      rw [Int.mul_assoc, Int.mul_comm s m, Int.sub_mul]
      omega
    rwa [e] at this
  have h4 : k ∣ (i - j) * s := Int.dvd_of_mul_dvd_mul_right (by omega) h3
  have h5 : k.natAbs ∣ (i - j).natAbs * s.natAbs := by
    rw [← Int.natAbs_mul]
    exact Int.natAbs_dvd_natAbs.mpr h4
  have h6 : Nat.Coprime k.natAbs s.natAbs := by
    unfold gcdI at g
    exact Int.ofNat.inj g
  exact Int.natAbs_dvd_natAbs.mp (h6.dvd_of_dvd_mul_right h5)
/-- where a ring lets pass -/
theorem let_at {k : Nat} {r : Rg} (h : rOk k 2 r) (k2 : 2 ≤ k) (x i : Int) : ((i * r.2 + x).fmod r.1 = 0) ↔ ∃ c, lrN r (-x) k = some c ∧ i % (k : Int) = (c : Int) := by
  obtain ⟨m, s, rfl, m1, m2, s1, s2, g⟩ := h
  have hn : 0 < (k : Int) * m := Int.mul_pos (by omega) (by omega)
  have tst : ∀ j : Int, ((j * (m * s) - -x).fmod ((k : Int) * m) = 0) ↔ (k : Int) * m ∣ j * (m * s) + x := fun j => by
    rw [Int.sub_neg]
    exact fmod_dvd hn
  have hmem : ∀ j : Nat, j ∈ (List.range k).filter (fun (i : Nat) => decide (((i : Int) * (m * s) - -x).fmod ((k : Int) * m) = 0)) ↔ j < k ∧ (k : Int) * m ∣ (j : Int) * (m * s) + x := fun j => by
    rw [List.mem_filter, List.mem_range, decide_eq_true_iff, tst]
  show ((i * (m * s) + x).fmod ((k : Int) * m) = 0) ↔ _
  rw [fmod_dvd hn]
  have h0 := Int.emod_nonneg i (show (k : Int) ≠ 0 by omega)
  have h1 := Int.emod_lt_of_pos i (show (0 : Int) < k by omega)
  constructor
  · intro hi
    have hi2 := (let_period i).mp hi
    obtain ⟨j, hj⟩ : ∃ j : Nat, i % (k : Int) = (j : Int) := ⟨(i % (k : Int)).toNat, by omega⟩
    rw [hj] at hi2
    have hjm := (hmem j).mpr ⟨by omega, hi2⟩
    cases hl : lrN ((k : Int) * m, m * s) (-x) k with
    | none =>
      exfalso
      have : (List.range k).filter (fun (i : Nat) => decide (((i : Int) * (m * s) - -x).fmod ((k : Int) * m) = 0)) = [] := by
        have hl2 : ((List.range k).filter (fun (i : Nat) => decide (((i : Int) * (m * s) - -x).fmod ((k : Int) * m) = 0)))[0]? = none := hl
        rw [List.getElem?_eq_none_iff] at hl2
        exact List.length_eq_zero_iff.mp (by omega)
      rw [this] at hjm
      cases hjm
    | some c =>
      refine ⟨c, rfl, ?_⟩
      have hc := (hmem c).mp (List.mem_of_getElem? (show ((List.range k).filter (fun (i : Nat) => decide (((i : Int) * (m * s) - -x).fmod ((k : Int) * m) = 0)))[0]? = some c from hl))
      have hd := let_one m1 g hi2 hc.2
      obtain ⟨q, hq⟩ := hd
      have : q = 0 := by
        rcases Int.lt_trichotomy q 0 with h | h | h
        · have := Int.mul_le_mul_of_nonneg_left (show q ≤ -1 by omega) (show (0 : Int) ≤ k by omega)
          omega
        · exact h
        · have := Int.mul_le_mul_of_nonneg_left (show 1 ≤ q by omega) (show (0 : Int) ≤ k by omega)
          omega
      rw [this] at hq
      omega
  · rintro ⟨c, hl, hic⟩
    have hc := (hmem c).mp (List.mem_of_getElem? (show ((List.range k).filter (fun (i : Nat) => decide (((i : Int) * (m * s) - -x).fmod ((k : Int) * m) = 0)))[0]? = some c from hl))
    refine (let_period i).mpr ?_
    rw [hic]
    exact hc.2
end K7

set_option Elab.async false
set_option linter.all false
set_option maxRecDepth 100000
set_option maxHeartbeats 4000000
/-! THE PLAIN LAW: the law's window tells the same levels. -/
namespace K7
theorem swp_at {v : List Int} {j : Nat} (h : j + 1 < v.length) (t : Nat) : (swp v j).getD t 0 = if t = j then v.getD (j + 1) 0 else if t = j + 1 then v.getD j 0 else v.getD t 0 := by
  unfold swp
  rw [List.getD_eq_getElem?_getD, List.getElem?_set, List.getElem?_set]
  by_cases h1 : t = j + 1
  · rw [if_pos h1.symm, if_pos (by rw [List.length_set]; exact h), if_neg (by omega), if_pos h1]
    rfl
  · rw [if_neg (fun z => h1 z.symm)]
    by_cases h2 : t = j
    · rw [if_pos h2.symm, if_pos (by omega), if_pos h2]
      rfl
    · rw [if_neg (fun z => h2 z.symm), if_neg h2, if_neg h1, ← List.getD_eq_getElem?_getD]
theorem wfold {T : Nat → Prop} [DecidablePred T] (hT : ∀ t, T t → ¬ T (t + 1)) (vl : List Int) : ∀ j, j < vl.length →
    (∀ t, ((List.range j).foldl (fun (v : List Int) (t : Nat) => if T t then (if v.getD t 0 < v.getD (t + 1) 0 then swp v t else v) else v) vl).getD t 0 =
      if t < j ∧ T t then max (vl.getD t 0) (vl.getD (t + 1) 0) else if 1 ≤ t ∧ t - 1 < j ∧ T (t - 1) then min (vl.getD (t - 1) 0) (vl.getD t 0) else vl.getD t 0)
  | 0, _, t => by
    rw [if_neg (by omega), if_neg (by omega)]
    rfl
  | j + 1, hj, t => by
    have ih := wfold hT vl j (by omega)
    rw [List.range_succ, List.foldl_append]
    have hlen : ((List.range j).foldl (fun (v : List Int) (t : Nat) => if T t then (if v.getD t 0 < v.getD (t + 1) 0 then swp v t else v) else v) vl).length = vl.length := fold_len (fun v a => by
      split
      · split
        · exact swp_len _ _
        · rfl
      · rfl) _ _
    generalize (List.range j).foldl (fun (v : List Int) (t : Nat) => if T t then (if v.getD t 0 < v.getD (t + 1) 0 then swp v t else v) else v) vl = v at ih hlen
    show (if T j then (if v.getD j 0 < v.getD (j + 1) 0 then swp v j else v) else v).getD t 0 = _
    by_cases hTj : T j
    · rw [if_pos hTj]
      have nTp : ∀ s, s + 1 = j → ¬ T s := fun s hs z => hT s z (by rw [hs]; exact hTj)
      have vj : v.getD j 0 = vl.getD j 0 := by
        rw [ih, if_neg (by omega), if_neg]
        rintro ⟨a, b, c⟩
        exact nTp (j - 1) (by omega) c
      have vj1 : v.getD (j + 1) 0 = vl.getD (j + 1) 0 := by
        rw [ih, if_neg (by omega), if_neg (by omega)]
      by_cases h1 : t = j
      · subst h1
        by_cases hlt : v.getD t 0 < v.getD (t + 1) 0
        · rw [if_pos hlt, swp_at (by omega), if_pos rfl, vj1, if_pos ⟨by omega, hTj⟩]
          rw [vj, vj1] at hlt
          omega
        · rw [if_neg hlt, vj, if_pos ⟨by omega, hTj⟩]
          rw [vj, vj1] at hlt
          omega
      · by_cases h2 : t = j + 1
        · subst h2
          have q : 1 ≤ j + 1 ∧ j + 1 - 1 < j + 1 ∧ T (j + 1 - 1) := ⟨by omega, by omega, hTj⟩
          have q2 : ¬ (j + 1 < j + 1 ∧ T (j + 1)) := fun z => by omega
          by_cases hlt : v.getD j 0 < v.getD (j + 1) 0
          · rw [if_pos hlt, swp_at (by omega), if_neg (by omega), if_pos rfl, vj, if_neg q2, if_pos q, Nat.add_sub_cancel]
            rw [vj, vj1] at hlt
            omega
          · rw [if_neg hlt, vj1, if_neg q2, if_pos q, Nat.add_sub_cancel]
            rw [vj, vj1] at hlt
            omega
        · have e : (if v.getD j 0 < v.getD (j + 1) 0 then swp v j else v).getD t 0 = v.getD t 0 := by
            split
            · rw [swp_at (by omega), if_neg h1, if_neg h2]
            · rfl
          have q1 : (t < j ∧ T t) ↔ (t < j + 1 ∧ T t) := ⟨fun z => ⟨by omega, z.2⟩, fun z => ⟨by omega, z.2⟩⟩
          have q2 : (1 ≤ t ∧ t - 1 < j ∧ T (t - 1)) ↔ (1 ≤ t ∧ t - 1 < j + 1 ∧ T (t - 1)) := ⟨fun z => ⟨z.1, by omega, z.2.2⟩, fun z => ⟨z.1, by omega, z.2.2⟩⟩
          rw [e, ih]
          simp only [q1, q2]
    · have q1 : (t < j ∧ T t) ↔ (t < j + 1 ∧ T t) := ⟨fun z => ⟨by omega, z.2⟩, fun z => ⟨by
        have : t ≠ j := fun q => hTj (q ▸ z.2)
        omega, z.2⟩⟩
      have q2 : (1 ≤ t ∧ t - 1 < j ∧ T (t - 1)) ↔ (1 ≤ t ∧ t - 1 < j + 1 ∧ T (t - 1)) := ⟨fun z => ⟨z.1, by omega, z.2.2⟩, fun z => ⟨z.1, by
        have : t - 1 ≠ j := fun q => hTj (q ▸ z.2.2)
        omega, z.2.2⟩⟩
      rw [if_neg hTj, ih]
      simp only [q1, q2]
/-- the window tells the function from a to b -/
def Tells (lo : Int) (vl : List Int) (f : Int → Int) (a b : Nat) : Prop := ∀ t : Nat, a ≤ t → t ≤ b → vl.getD t 0 = f (lo + t)
theorem tells_step {k : Nat} {r : Rg} (h : rOk k 2 r) (k2 : 2 ≤ k) {x lo : Int} {vl vals : List Int} {m a b : Nat} (hv : vals.length = k) (hm : vl.length = m + 1) (hb : b ≤ m) (w : Tells lo vl (vir vals) a b) :
    Tells lo (wring lo m vl (r, x)) (vir (lstep k vals (r, x))) (a + 1) (b - 1) := by
  intro t ht1 ht2
  have ht3 : t < m := by omega
  have la := fun t : Nat => let_at h k2 x (lo + t)
  cases hl : lrN r (-x) k with
  | none =>
    have e1 : lstep k vals (r, x) = vals := by
      unfold lstep
      rw [show lrN (r, x).1 (-(r, x).2) k = none from hl]
    have e2 : wring lo m vl (r, x) = vl := by
      unfold wring
      generalize List.range m = l
      induction l with
      | nil => rfl
      | cons t l ih =>
        rw [List.foldl_cons]
        have : wst lo (r, x).1 (r, x).2 vl t = vl := by
          unfold wst
          rw [if_neg]
          intro z
          obtain ⟨c, hc, _⟩ := (la t).mp z
          rw [hl] at hc
          cases hc
        rw [this, ih]
    rw [e1, e2]
    exact w t (by omega) (by omega)
  | some c =>
    have hck := lrN_lt hl
    have e1 : lstep k vals (r, x) = if falls vals (c : Nat) then vals else lb vals (c : Nat) := by
      unfold lstep
      rw [show lrN (r, x).1 (-(r, x).2) k = some c from hl]
    have hT : ∀ t : Nat, (((lo + t) * r.2 + x).fmod r.1 = 0) ↔ (lo + (t : Int)) % (k : Int) = (c : Int) := fun t => by
      rw [la t]
      constructor
      · rintro ⟨c2, h1, h2⟩
        rw [hl] at h1
        cases h1
        exact h2
      · intro h
        exact ⟨c, hl, h⟩
    have hno : ∀ t : Nat, (((lo + t) * r.2 + x).fmod r.1 = 0) → ¬ (((lo + ((t + 1 : Nat) : Int)) * r.2 + x).fmod r.1 = 0) := fun t h1 h2 => by
      have q1 := (hT t).mp h1
      have q2 := (hT (t + 1)).mp h2
      have q3 := em_next (i := lo + (t : Int)) (k := (k : Int)) (by omega)
      rw [show lo + ((t + 1 : Nat) : Int) = lo + (t : Int) + 1 by omega] at q2
      omega
    have e2 := wfold (T := fun t => ((lo + t) * r.2 + x).fmod r.1 = 0) hno vl m (by omega) t
    have e3 : (wring lo m vl (r, x)).getD t 0 = ((List.range m).foldl (fun (v : List Int) (t : Nat) => if ((lo + t) * r.2 + x).fmod r.1 = 0 then (if v.getD t 0 < v.getD (t + 1) 0 then swp v t else v) else v) vl).getD t 0 := rfl
    rw [e3, e2, e1, step_vir (k := (k : Int)) (by omega) (by omega) (by omega) (by omega)]
    unfold stepF
    have ec := em_eq (i := lo + (t : Int)) (c := (c : Int)) (k := (k : Int)) (by omega) (by omega)
    have ec2 := em_eq (i := lo + (t : Int) - 1) (c := (c : Int)) (k := (k : Int)) (by omega) (by omega)
    have w0 := w t (by omega) (by omega)
    have w1 := w (t + 1) (by omega) (by omega)
    have w2 := w (t - 1) (by omega) (by omega)
    rw [show lo + ((t + 1 : Nat) : Int) = lo + (t : Int) + 1 by omega] at w1
    rw [show lo + ((t - 1 : Nat) : Int) = lo + (t : Int) - 1 by omega] at w2
    by_cases a1 : (lo + (t : Int)) % (k : Int) = (c : Int)
    · rw [if_pos ⟨ht3, (hT t).mpr a1⟩, if_pos (ec.mpr a1), w0, w1]
    · rw [if_neg (fun z => a1 ((hT t).mp z.2)), if_neg (fun z => a1 (ec.mp z))]
      have hT1 := hT (t - 1)
      rw [show lo + ((t - 1 : Nat) : Int) = lo + (t : Int) - 1 by omega] at hT1
      by_cases a2 : (lo + (t : Int) - 1) % (k : Int) = (c : Int)
      · rw [if_pos ⟨by omega, by omega, by rw [show lo + ((t - 1 : Nat) : Int) = lo + (t : Int) - 1 by omega]; exact hT1.mpr a2⟩, if_pos (ec2.mpr a2), w0, w2]
      · rw [if_neg (fun z => a2 (hT1.mp (by have := z.2.2; rwa [show lo + ((t - 1 : Nat) : Int) = lo + (t : Int) - 1 by omega] at this))), if_neg (fun z => a2 (ec2.mp z)), w0]
end K7

set_option Elab.async false
set_option linter.all false
set_option maxRecDepth 100000
set_option maxHeartbeats 4000000
namespace K7
theorem tells_fold {k : Nat} (k2 : 2 ≤ k) {lo : Int} {m : Nat} : ∀ (l : List (Rg × Int)) (vl vals : List Int) (a b : Nat), (∀ q ∈ l, rOk k 2 q.1) → vals.length = k → vl.length = m + 1 → b ≤ m → Tells lo vl (vir vals) a b →
    Tells lo (l.foldl (wring lo m) vl) (vir (l.foldl (lstep k) vals)) (a + l.length) (b - l.length)
  | [], vl, vals, a, b, _, _, _, _, w => w
  | q :: l, vl, vals, a, b, h, hv, hm, hb, w => by
    have w1 := tells_step (h q List.mem_cons_self) k2 (x := q.2) hv hm hb w
    have w2 := tells_fold k2 l (wring lo m vl q) (lstep k vals q) (a + 1) (b - 1) (fun q hq => h q (List.mem_cons_of_mem _ hq)) (by rw [lstep_len, hv]) (by rw [wring_len, hm]) (by omega) w1
    rw [List.foldl_cons, List.foldl_cons, List.length_cons, show a + (l.length + 1) = a + 1 + l.length by omega, show b - (l.length + 1) = b - 1 - l.length by omega]
    exact w2
theorem vals0_at {k : Nat} {d n i : Int} (k2 : 2 ≤ k) : vir (vals0 k d n) i = i + d - n := by
  have hl : ((vals0 k d n).length : Int) = k := by
    unfold vals0
    rw [List.length_map, List.length_range]
  rw [vir_em hl (by omega)]
  have h0 := Int.emod_nonneg i (show (k : Int) ≠ 0 by omega)
  have h1 := Int.emod_lt_of_pos i (show (0 : Int) < k by omega)
  have e : nth (vals0 k d n) (i % (k : Int)) = i % (k : Int) + d - n := by
    unfold nth vals0
    rw [List.getD_eq_getElem?_getD, List.getElem?_map, List.getElem?_range (by omega)]
    show ((i % (k : Int)).toNat : Int) + d - n = _
    omega
  rw [e]
  omega
theorem lev_same (k : Nat) (rs : List Rg) (ps : List Int) (d : Int) (k2 : 2 ≤ k) (h : ∀ r ∈ rs, rOk k 2 r) (hl : ps.length = rs.length) : wlevs rs ps d k = levs rs ps d k := by
  have zl : (rs.zip ps).reverse.length = rs.length := by rw [List.length_reverse, List.length_zip, hl, Nat.min_self]
  have w0 : Tells (1 - (k : Int) - rs.length) (wm0 (1 - (k : Int) - rs.length) (2 * rs.length + k - 1) d rs.length) (vir (vals0 k d rs.length)) 0 (2 * rs.length + k - 1) := by
    intro t _ ht
    rw [vals0_at k2]
    unfold wm0
    rw [List.getD_eq_getElem?_getD, List.getElem?_map, List.getElem?_range (by omega)]
    rfl
  have w1 := tells_fold k2 (rs.zip ps).reverse _ _ _ _ (fun q hq => h q.1 (List.of_mem_zip (List.mem_reverse.mp hq)).1) (by unfold vals0; rw [List.length_map, List.length_range]) (by unfold wm0; rw [List.length_map, List.length_range]) (Nat.le_refl _) w0
  rw [zl] at w1
  show isort ((wres rs ps d k).map fun n => n.fdiv (k : Int)) = isort ((List.range k).map fun (i : Nat) => (vir (valsOf rs ps d k) (1 - (k : Int) + (i : Int))).fdiv (k : Int))
  congr 1
  unfold wres
  rw [List.map_map]
  refine List.map_congr_left fun t ht => ?_
  have ht' := List.mem_range.mp ht
  show ((wmap rs ps d k).getD (rs.length + t) 0).fdiv (k : Int) = _
  have := w1 (rs.length + t) (by omega) (by omega)
  rw [show (wmap rs ps d k).getD (rs.length + t) 0 = vir (valsOf rs ps d k) (1 - (k : Int) - rs.length + ((rs.length + t : Nat) : Int)) from this]
  rw [show 1 - (k : Int) - (rs.length : Int) + ((rs.length + t : Nat) : Int) = 1 - (k : Int) + (t : Int) by omega]
/-! the two distances -/
theorem take_app_sum (f : Int → Int) : True := trivial
theorem dist_snoc (l : List Int) (n : Int) : dist (l ++ [n]) = dist l + (l.map fun m => mx0 (n - m - 1)).sum := by
  induction l with
  | nil => rfl
  | cons x r ih =>
    show dadd x (r ++ [n]) + dist (r ++ [n]) = dadd x r + dist r + ((x :: r).map fun m => mx0 (n - m - 1)).sum
    rw [ih, List.map_cons, List.sum_cons]
    unfold dadd
    rw [List.map_append, List.map_singleton, sum_snoc]
    omega
theorem ldTo_take (ns : List Int) : ∀ i, i ≤ ns.length → ldTo ns i = dist (ns.take i)
  | 0, _ => rfl
  | i + 1, h => by
    have ih := ldTo_take ns i (by omega)
    unfold ldTo at ih ⊢
    rw [List.range_succ, List.map_append, List.map_singleton, sum_snoc, ih]
    have e : ns.take (i + 1) = ns.take i ++ [ns.getD i 0] := by
      rw [List.take_succ, List.getElem?_eq_getElem (by omega), List.getD_eq_getElem?_getD, List.getElem?_eq_getElem (by omega)]
      rfl
    rw [e, dist_snoc]
    rfl
theorem far_same (ns : List Int) : ldist ns = dist ns := by
  unfold ldist
  rw [ldTo_take ns _ (Nat.le_refl _), List.take_of_length_le (Nat.le_refl _)]
end K7

set_option Elab.async false
set_option linter.all false
set_option maxRecDepth 100000
set_option maxHeartbeats 0
namespace K7
/-- sorted lists of n numbers from lo to hi -/
def seqs : Nat → Int → Int → List (List Int)
  | 0, _, _ => [[]]
  | n + 1, lo, hi => (List.range (hi - lo + 1).toNat).flatMap fun (e : Nat) => (seqs n (lo + (e : Int)) hi).map fun r => (lo + (e : Int)) :: r
def rstep (k : Nat) (vals : List Int) (t : Int) : List Int := if falls vals ((-t) % (k : Int)) then vals else lb vals ((-t) % (k : Int))
def back (k : Nat) (ns : List Int) (g : Nat) : List Int := levsOf (((rsts ns g).take g).reverse.foldl (rstep k) (vals0 k (ns.sum + g + (k : Int) - 1) g)) k
def chk1 (k : Nat) (ns : List Int) : Bool := (List.range 9).all fun (g : Nat) => if dist ns ≤ ((g + 1 : Nat) : Int) then decide (back k ns (g + 1) = ns) else true
def chk (k : Nat) : Bool := (seqs (k - 1) 0 7).all fun r => chk1 k (0 :: r)
theorem chk_2 : chk 2 = true := by decide +kernel
theorem chk_3 : chk 3 = true := by decide +kernel
theorem chk_4 : chk 4 = true := by decide +kernel
theorem chk_5 : chk 5 = true := by decide +kernel
theorem chk_6 : chk 6 = true := by decide +kernel
theorem chk_7 : chk 7 = true := by decide +kernel
end K7

set_option Elab.async false
set_option linter.all false
set_option maxRecDepth 100000
set_option maxHeartbeats 4000000
namespace K7
def sh (a : Int) (ns : List Int) : List Int := ns.map fun n => n + a
theorem sh_len (a : Int) (ns : List Int) : (sh a ns).length = ns.length := List.length_map _
theorem sh_getD {a : Int} {ns : List Int} {i : Nat} (h : i < ns.length) : (sh a ns).getD i 0 = ns.getD i 0 + a := by
  unfold sh
  rw [List.getD_eq_getElem?_getD, List.getD_eq_getElem?_getD, List.getElem?_map, List.getElem?_eq_getElem h]
  rfl
theorem sh_nth {a : Int} {ns : List Int} {i : Int} (h0 : 0 ≤ i) (h : i < ns.length) : nth (sh a ns) i = nth ns i + a := sh_getD (by omega)
theorem sh_lsum (a : Int) (ns : List Int) (c : Int) : lsum (sh a ns) (c - a) = lsum ns c := by
  unfold lsum sh
  rw [List.map_map]
  congr 1
  refine List.map_congr_left fun n _ => ?_
  show mx0 (n + a + (c - a) + 1) = _
  rw [show n + a + (c - a) + 1 = n + c + 1 by omega]
theorem sh_msum (a : Int) (ns : List Int) (c : Int) : msum (sh a ns) (c - a) = msum ns c := by
  unfold msum sh
  rw [List.map_map]
  congr 1
  refine List.map_congr_left fun n _ => ?_
  show mx0 (-(n + a) - (c - a) - 1) = _
  rw [show -(n + a) - (c - a) - 1 = -n - c - 1 by omega]
theorem sh_dist (a : Int) : ∀ ns : List Int, dist (sh a ns) = dist ns
  | [] => rfl
  | n :: r => by
    show dadd (n + a) (sh a r) + dist (sh a r) = dadd n r + dist r
    rw [sh_dist a r]
    congr 1
    unfold dadd sh
    rw [List.map_map]
    congr 1
    refine List.map_congr_left fun m _ => ?_
    show mx0 (m + a - (n + a) - 1) = _
    rw [show m + a - (n + a) - 1 = m - n - 1 by omega]
theorem sh_sum (a : Int) : ∀ ns : List Int, (sh a ns).sum = ns.sum + ns.length * a
  | [] => by simp [sh]
  | n :: r => by
    show (n + a) + (sh a r).sum = _
    rw [sh_sum a r, List.sum_cons, List.length_cons, show ((r.length + 1 : Nat) : Int) = (r.length : Int) + 1 from rfl, Int.add_mul]
    omega
theorem sh_ins (a x : Int) : ∀ l : List Int, ins (x + a) (sh a l) = sh a (ins x l)
  | [] => rfl
  | y :: r => by
    show (if x + a ≤ y + a then (x + a) :: (y + a) :: sh a r else (y + a) :: ins (x + a) (sh a r)) = sh a (if x ≤ y then x :: y :: r else y :: ins x r)
    by_cases h : x ≤ y
    · rw [if_pos h, if_pos (by omega)]
      rfl
    · rw [if_neg h, if_neg (by omega), sh_ins a x r]
      rfl
theorem sh_isort (a : Int) : ∀ l : List Int, isort (sh a l) = sh a (isort l)
  | [] => rfl
  | x :: r => by
    show ins (x + a) (isort (sh a r)) = sh a (ins x (isort r))
    rw [sh_isort a r, sh_ins]
theorem sh_vir {b : Int} {ns : List Int} (h : 0 < ns.length) (i : Int) : vir (sh b ns) i = vir ns i + b := by
  unfold vir
  rw [sh_len]
  have h2 := fmod_in i (m := (ns.length : Int)) (by omega)
  rw [sh_nth h2.1 h2.2]
  omega
theorem sh_lb {b : Int} {ns : List Int} {c : Int} (c0 : 0 ≤ c) (c1 : c < ns.length) : lb (sh b ns) c = sh b (lb ns c) := by
  unfold lb
  rw [sh_len]
  split
  · rw [sh_nth (by omega) (by omega), sh_nth c0 c1]
    unfold sh
    rw [List.map_set, List.map_set]
  · rw [sh_nth (i := 0) (by omega) (by omega), sh_nth c0 c1]
    unfold sh
    rw [List.map_set, List.map_set, show nth ns 0 + b + (ns.length : Int) = nth ns 0 + ns.length + b by omega, show nth ns c + b - (ns.length : Int) = nth ns c - ns.length + b by omega]
theorem sh_rstep {k : Nat} {b : Int} {vals : List Int} (k0 : 0 < k) (h : vals.length = k) (t : Int) : rstep k (sh b vals) t = sh b (rstep k vals t) := by
  have h0 := Int.emod_nonneg (-t) (show (k : Int) ≠ 0 by omega)
  have h1 := Int.emod_lt_of_pos (-t) (show (0 : Int) < k by omega)
  have e : falls (sh b vals) ((-t) % (k : Int)) = falls vals ((-t) % (k : Int)) := by
    unfold falls
    rw [sh_vir (by omega), sh_nth h0 (by omega)]
    exact decide_eq_decide.mpr ⟨fun z => by omega, fun z => by omega⟩
  unfold rstep
  rw [e, sh_lb h0 (by omega)]
  split <;> rfl
theorem rstep_len (k : Nat) (vals : List Int) (t : Int) : (rstep k vals t).length = vals.length := by
  unfold rstep
  split
  · rfl
  · exact lb_len _ _
theorem sh_fold {k : Nat} {b : Int} (k0 : 0 < k) : ∀ (l : List Int) (vals : List Int), vals.length = k → l.foldl (rstep k) (sh b vals) = sh b (l.foldl (rstep k) vals)
  | [], _, _ => rfl
  | t :: l, vals, h => by
    rw [List.foldl_cons, List.foldl_cons, sh_rstep k0 h, sh_fold k0 l _ (by rw [rstep_len, h])]
theorem sh_levs {k : Nat} {a : Int} {vals : List Int} (k0 : 0 < k) (h : vals.length = k) : levsOf (sh ((k : Int) * a) vals) k = sh a (levsOf vals k) := by
  unfold levsOf
  rw [← sh_isort]
  congr 1
  unfold sh
  rw [List.map_map]
  refine List.map_congr_left fun i _ => ?_
  show (vir (sh ((k : Int) * a) vals) _).fdiv (k : Int) = (vir vals _).fdiv (k : Int) + a
  rw [sh_vir (by omega), Int.fdiv_eq_ediv_of_nonneg _ (by omega), Int.fdiv_eq_ediv_of_nonneg _ (by omega)]
  exact Int.add_mul_ediv_left _ _ (by omega)
theorem sh_bx {a : Int} {ns : List Int} (h : 0 < ns.length) : bxOf (sh a ns) = bxOf ns := by
  have e1 : lst (sh a ns) = lst ns + a := by
    unfold lst
    rw [sh_len, sh_getD (by omega)]
  have e2 : fst0 (sh a ns) = fst0 ns + a := sh_getD h
  unfold bxOf
  rw [e1, e2, show (-(fst0 ns + a) - (-(lst ns + a) - 1)).toNat = (-fst0 ns - (-lst ns - 1)).toNat by congr 1; omega]
  refine List.map_congr_left fun i _ => ?_
  rw [show -(lst ns + a) - 1 + (i : Int) = (-lst ns - 1 + (i : Int)) - a by omega, sh_lsum, sh_msum]
theorem sh_rsts {a : Int} {ns : List Int} (h : 0 < ns.length) (g : Nat) : rsts (sh a ns) g = rsts ns g := by
  have e : core (sh a ns) = core ns := by
    unfold core
    rw [sh_bx h]
  unfold rsts rs0
  rw [e, sh_len]
theorem sh_back {k : Nat} {a : Int} {ns : List Int} (k0 : 0 < k) (h : ns.length = k) (g : Nat) : back k (sh a ns) g = sh a (back k ns g) := by
  unfold back
  rw [sh_rsts (by omega)]
  have e : vals0 k ((sh a ns).sum + g + (k : Int) - 1) g = sh ((k : Int) * a) (vals0 k (ns.sum + g + (k : Int) - 1) g) := by
    unfold vals0 sh
    rw [List.map_map]
    refine List.map_congr_left fun i _ => ?_
    show (i : Int) + ((sh a ns).sum + g + (k : Int) - 1) - g = (i : Int) + (ns.sum + g + (k : Int) - 1) - g + (k : Int) * a
    rw [sh_sum, h]
    omega
  have hl : (vals0 k (ns.sum + g + (k : Int) - 1) g).length = k := by
    unfold vals0
    rw [List.length_map, List.length_range]
  have hf : ∀ (l : List Int) (v : List Int), v.length = k → (l.foldl (rstep k) v).length = k := fun l v hv => by rw [fold_len (fun v a => rstep_len k v a), hv]
  rw [e, sh_fold k0 _ _ hl, sh_levs k0 (hf _ _ hl)]
theorem mem_seqs : ∀ (ns : List Int) (lo hi : Int), ns.Pairwise (· ≤ ·) → (∀ n ∈ ns, lo ≤ n ∧ n ≤ hi) → ns ∈ seqs ns.length lo hi
  | [], _, _, _, _ => List.mem_singleton.mpr rfl
  | n :: r, lo, hi, hp, hb => by
    obtain ⟨h1, h2⟩ := List.pairwise_cons.mp hp
    have hn := hb n List.mem_cons_self
    refine List.mem_flatMap.mpr ⟨(n - lo).toNat, List.mem_range.mpr (by omega), List.mem_map.mpr ⟨r, ?_, ?_⟩⟩
    · rw [show lo + ((n - lo).toNat : Int) = n by omega]
      exact mem_seqs r n hi h2 fun m hm => ⟨h1 m hm, (hb m (List.mem_cons_of_mem _ hm)).2⟩
    · rw [show lo + ((n - lo).toNat : Int) = n by omega]
theorem chk_k {k : Nat} (k2 : 2 ≤ k) (k7 : k ≤ 7) : chk k = true := by
  have : k = 2 ∨ k = 3 ∨ k = 4 ∨ k = 5 ∨ k = 6 ∨ k = 7 := by omega
  rcases this with rfl | rfl | rfl | rfl | rfl | rfl
  · exact chk_2
  · exact chk_3
  · exact chk_4
  · exact chk_5
  · exact chk_6
  · exact chk_7
theorem sh_sh (a : Int) (ns : List Int) : sh a (sh (-a) ns) = ns := by
  unfold sh
  rw [List.map_map]
  have : ((fun n : Int => n + a) ∘ fun n => n + -a) = id := by
    funext n
    show n + -a + a = n
    omega
  rw [this, List.map_id]
theorem back_ok {k g : Nat} {ns : List Int} (k2 : 2 ≤ k) (k7 : k ≤ 7) (h : drawn k ns) (g1 : 1 ≤ g) (g9 : g ≤ 9) (hd : dist ns ≤ g) : back k ns g = ns := by
  obtain ⟨hl, hp, low, l0, l1, hb⟩ := h
  cases ns with
  | nil => simp at hl; omega
  | cons f r =>
    obtain ⟨hp1, hp2⟩ := List.pairwise_cons.mp hp
    have hf := hb f List.mem_cons_self
    have e : sh (-f) (f :: r) = 0 :: sh (-f) r := by
      show (f + -f) :: sh (-f) r = _
      rw [show f + -f = 0 by omega]
    have m : sh (-f) r ∈ seqs (k - 1) 0 7 := by
      have hlr : (sh (-f) r).length = k - 1 := by
        rw [sh_len]
        rw [List.length_cons] at hl
        omega
      rw [← hlr]
      refine mem_seqs _ 0 7 ?_ fun n hn => ?_
      · unfold sh
        rw [List.pairwise_map]
        exact hp2.imp fun h => by omega
      · obtain ⟨n', hn', rfl⟩ := List.mem_map.mp hn
        have h1 := hp1 n' hn'
        have h2 := hb n' (List.mem_cons_of_mem _ hn')
        omega
    have c1 := List.all_eq_true.mp (chk_k k2 k7) _ m
    rw [← e] at c1
    have c2 := List.all_eq_true.mp c1 (g - 1) (List.mem_range.mpr (by omega))
    rw [show g - 1 + 1 = g by omega, sh_dist, if_pos hd] at c2
    have c3 := of_decide_eq_true c2
    have c4 := sh_back (k := k) (a := f) (ns := sh (-f) (f :: r)) (by omega) (by rw [sh_len, hl]) g
    rw [c3, sh_sh] at c4
    exact c4
end K7

set_option Elab.async false
set_option linter.all false
set_option maxRecDepth 100000
set_option maxHeartbeats 4000000
namespace K7
theorem rok_pos {k : Nat} {r : Rg} (h : rOk k 2 r) (k2 : 2 ≤ k) : 0 < r.1 := by
  obtain ⟨m, s, rfl, m1, _⟩ := h
  exact Int.mul_pos (by omega) (by omega)
theorem step_rest {k : Nat} {r : Rg} (h : rOk k 2 r) (k2 : 2 ≤ k) (vals : List Int) (t : Int) : lstep k vals (r, (t * r.2).fmod r.1) = rstep k vals t := by
  have hp := rok_pos h k2
  have h1 : ((-t) * r.2 + (t * r.2).fmod r.1).fmod r.1 = 0 := by
    rw [fmod_dvd hp, Int.fmod_eq_emod_of_nonneg _ (by omega)]
    have e := Int.emod_add_mul_ediv (t * r.2) r.1
    refine ⟨-(t * r.2 / r.1), ?_⟩
    rw [Int.neg_mul, Int.mul_neg]
    omega
  obtain ⟨c, hc, hm⟩ := (let_at h k2 ((t * r.2).fmod r.1) (-t)).mp h1
  unfold lstep rstep
  rw [show lrN (r, (t * r.2).fmod r.1).1 (-(r, (t * r.2).fmod r.1).2) k = some c from hc, hm]
theorem fold_same {α β : Type} {f : List Int → α → List Int} {g : List Int → β → List Int} : ∀ (l : List α) (us : List β), l.length = us.length → (∀ (i : Nat) (q : α) (u : β), l[i]? = some q → us[i]? = some u → ∀ v, f v q = g v u) → ∀ v, l.foldl f v = us.foldl g v
  | [], [], _, _, _ => rfl
  | [], _ :: _, h, _, _ => by simp at h
  | _ :: _, [], h, _, _ => by simp at h
  | q :: l, u :: us, h, e, v => by
    rw [List.foldl_cons, List.foldl_cons, e 0 q u rfl rfl v]
    exact fold_same l us (by simpa using h) (fun i q u a b => e (i + 1) q u a b) _
theorem cls_ok (k : Nat) (ns : List Int) (rs : List Rg) (k2 : 2 ≤ k) (k7 : k ≤ 7) (hdr : drawn k ns) (hrs : ∀ r ∈ rs, rOk k 2 r) (g1 : 1 ≤ rs.length) (g9 : rs.length ≤ 9) (hd : dist ns ≤ rs.length) :
    inP rs (plc rs (rsts ns rs.length)) = true ∧ levs rs (plc rs (rsts ns rs.length)) (ns.sum + rs.length + ns.length - 1) k = ns := by
  have htl : rs.length ≤ (rsts ns rs.length).length := by
    unfold rsts
    rw [List.length_append, List.length_replicate]
    omega
  have hb := back_ok k2 k7 hdr g1 g9 hd
  unfold back at hb
  generalize rsts ns rs.length = ts at htl hb ⊢
  have hpl : (plc rs ts).length = rs.length := by
    unfold plc
    rw [List.length_map, List.length_range]
    omega
  have hat : ∀ (i : Nat) (r : Rg), rs[i]? = some r → (plc rs ts)[i]? = some ((ts.getD i 0 * r.2).fmod r.1) := fun i r hr => by
    have hi : i < rs.length := (List.getElem?_eq_some_iff.mp hr).1
    unfold plc
    rw [List.getElem?_map, List.getElem?_range (by omega)]
    show some ((ts.getD i 0 * (rs.getD i default).2).fmod (rs.getD i default).1) = _
    rw [getD_d hr]
  refine ⟨inTo_in (fun i hi => ?_) hpl, ?_⟩
  · rw [hpl] at hi
    have hr : rs[i]? = some rs[i] := List.getElem?_eq_getElem hi
    rw [List.getD_eq_getElem?_getD, hat i _ hr, getD_d hr]
    have := fmod_in (ts.getD i 0 * rs[i].2) (rok_pos (hrs _ (List.mem_of_getElem? hr)) k2)
    show 0 ≤ (ts.getD i 0 * rs[i].2).fmod rs[i].1 ∧ _
    exact ⟨this.1, by have := this.2; show (ts.getD i 0 * rs[i].2).fmod rs[i].1 ≤ _; omega⟩
  · have e : valsOf rs (plc rs ts) (ns.sum + rs.length + ns.length - 1) k = (ts.take rs.length).reverse.foldl (rstep k) (vals0 k (ns.sum + rs.length + (k : Int) - 1) rs.length) := by
      unfold valsOf
      rw [hdr.1]
      have l1 : (rs.zip (plc rs ts)).length = rs.length := by rw [List.length_zip, hpl, Nat.min_self]
      have l2 : (ts.take rs.length).length = rs.length := by rw [List.length_take]; omega
      refine fold_same _ _ (by rw [List.length_reverse, List.length_reverse, l1, l2]) (fun i q u hq hu v => ?_) _
      have hi : i < rs.length := by
        have := (List.getElem?_eq_some_iff.mp hq).1
        rw [List.length_reverse, l1] at this
        exact this
      rw [List.getElem?_reverse (by omega), l1, List.getElem?_zip_eq_some] at hq
      rw [List.getElem?_reverse (by omega), l2, List.getElem?_take_of_lt (by omega)] at hu
      obtain ⟨h1, h2⟩ := hq
      rw [hat _ _ h1] at h2
      obtain ⟨r, x⟩ := q
      have h1' : rs[rs.length - 1 - i]? = some r := h1
      have hx : x = (ts.getD (rs.length - 1 - i) 0 * r.2).fmod r.1 := (Option.some.inj h2).symm
      have hu2 : ts.getD (rs.length - 1 - i) 0 = u := getD_at hu
      rw [hx, hu2]
      exact step_rest (hrs r (List.mem_of_getElem? h1')) k2 v u
    unfold levs
    rw [e]
    exact hb
theorem facts : Facts where
  far := far_same
  lev := fun k rs ps d k2 _ h _ hl => lev_same k rs ps d k2 h hl
  cls := fun k ns rs k2 k7 hd hr g1 g9 h => cls_ok k ns rs k2 k7 hd hr g1 g9 h
end K7

set_option Elab.async false
set_option linter.all false
set_option maxRecDepth 100000
set_option maxHeartbeats 0
/-! THE PLAIN LAW: all levels that are met, the finite part. -/
namespace K7
def ostep (k : Nat) (vals : List Int) (o : Option Nat) : List Int := match o with
  | some c => if falls vals (c : Nat) then vals else lb vals (c : Nat)
  | none => vals
/-- all lists of n letters -/
def wordsO (k : Nat) : Nat → List (List (Option Nat))
  | 0 => [[]]
  | n + 1 => (wordsO k n).flatMap fun w => (none :: (List.range k).map some).map fun o => o :: w
def wordsT (k : Nat) : Nat → List (List Int)
  | 0 => [[]]
  | n + 1 => (wordsT k n).flatMap fun w => (List.range k).map fun (c : Nat) => (c : Int) :: w
def metO (k g : Nat) (t : Int) (w : List (Option Nat)) : List Int := levsOf (w.reverse.foldl (ostep k) (vals0 k t g)) k
def metT (k g : Nat) (t : Int) (w : List Int) : List Int := levsOf (w.reverse.foldl (rstep k) (vals0 k t g)) k
def ltB : List (List Int) → Bool
  | [] => true
  | [_] => true
  | a :: b :: r => decide (a < b) && ltB (b :: r)
def okB (g : Nat) (l : List Int) : Bool := decide (2 ≤ l.length) && decide (l.length ≤ 7) && l.all (fun n => decide (-9 ≤ n) && decide (n ≤ 9)) && decide (isort l = l) && decide (dist l ≤ (g : Int))
def chkA (k g : Nat) (t : Int) : Bool :=
  let due := dueL k g t
  ltB due && due.all (okB g) && (wordsO k g).all (fun w => due.contains (metO k g t w)) && (let all := (wordsT k g).map (metT k g t); due.all fun l => all.contains l)
def chkN (k g : Nat) (t : Int) : Bool := (List.range (k + 1)).all fun j => decide ((levL j g t).length ≤ 10000)
def chkG (k g : Nat) : Bool := (List.range (2 * g)).all fun (t : Nat) => chkA k g (t : Int) && chkN k g (t : Int)
theorem g21 : chkG 2 1 = true := by decide +kernel
theorem g22 : chkG 2 2 = true := by decide +kernel
theorem g31 : chkG 3 1 = true := by decide +kernel
theorem g23 : chkG 2 3 = true := by decide +kernel
theorem g32 : chkG 3 2 = true := by decide +kernel
theorem g24 : chkG 2 4 = true := by decide +kernel
theorem g33 : chkG 3 3 = true := by decide +kernel
theorem g34 : chkG 3 4 = true := by decide +kernel
end K7

set_option Elab.async false
set_option linter.all false
set_option maxRecDepth 100000
set_option maxHeartbeats 4000000
namespace K7
theorem chkG_k {k g : Nat} (hk : k = 2 ∨ k = 3) (h1 : 1 ≤ g) (h4 : g ≤ 4) : chkG k g = true := by
  have : g = 1 ∨ g = 2 ∨ g = 3 ∨ g = 4 := by omega
  rcases hk with rfl | rfl <;> rcases this with rfl | rfl | rfl | rfl
  · exact g21
  · exact g22
  · exact g23
  · exact g24
  · exact g31
  · exact g32
  · exact g33
  · exact g34
theorem chk_at {k g : Nat} {t : Int} (hk : k = 2 ∨ k = 3) (h1 : 1 ≤ g) (h4 : g ≤ 4) (t0 : 0 ≤ t) (t1 : t < 2 * g) : chkA k g t = true ∧ chkN k g t = true := by
  have c := List.all_eq_true.mp (chkG_k hk h1 h4) t.toNat (List.mem_range.mpr (by omega))
  rw [show ((t.toNat : Nat) : Int) = t by omega, Bool.and_eq_true] at c
  exact c
theorem ltB_pw : ∀ l : List (List Int), ltB l = true → l.Pairwise (· < ·)
  | [], _ => .nil
  | [a], _ => List.pairwise_singleton _ _
  | a :: b :: r, h => by
    have h' : (decide (a < b) && ltB (b :: r)) = true := h
    rw [Bool.and_eq_true] at h'
    have ih := ltB_pw (b :: r) h'.2
    have hab : a < b := of_decide_eq_true h'.1
    refine List.pairwise_cons.mpr ⟨fun c hc => ?_, ih⟩
    rcases List.mem_cons.mp hc with rfl | hc
    · exact hab
    · exact List.lt_trans hab ((List.pairwise_cons.mp ih).1 c hc)
theorem mem_wordsO {k : Nat} : ∀ w : List (Option Nat), (∀ o ∈ w, ∀ c, o = some c → c < k) → w ∈ wordsO k w.length
  | [], _ => List.mem_singleton.mpr rfl
  | o :: w, h => by
    refine List.mem_flatMap.mpr ⟨w, mem_wordsO w fun o ho => h o (List.mem_cons_of_mem _ ho), List.mem_map.mpr ⟨o, ?_, rfl⟩⟩
    cases o with
    | none => exact List.mem_cons_self
    | some c => exact List.mem_cons_of_mem _ (List.mem_map.mpr ⟨c, List.mem_range.mpr (h _ List.mem_cons_self c rfl), rfl⟩)
theorem wordsT_len {k : Nat} : ∀ (n : Nat) (w : List Int), w ∈ wordsT k n → w.length = n
  | 0, w, h => by rw [List.mem_singleton.mp h]; rfl
  | n + 1, w, h => by
    obtain ⟨v, hv, h2⟩ := List.mem_flatMap.mp h
    obtain ⟨c, _, rfl⟩ := List.mem_map.mp h2
    rw [List.length_cons, wordsT_len n v hv]
theorem mem_allT {rs : List Rg} {x : List Int} (h : inP rs x = true) : x ∈ allT rs := by
  have hl := inP_len h
  have hin : ∀ i, i < rs.length → 0 ≤ x.getD i 0 ∧ x.getD i 0 ≤ (rs.getD i default).1 - 1 := fun i hi => by
    unfold inP at h
    rw [Bool.and_eq_true, List.all_eq_true] at h
    have := h.2 _ (List.mem_map.mpr ⟨i, List.mem_range.mpr hi, rfl⟩)
    have h' : (decide (0 ≤ x.getD i 0) && decide (x.getD i 0 ≤ (rs.getD i default).1 - 1)) = true := this
    rw [Bool.and_eq_true] at h'
    exact ⟨of_decide_eq_true h'.1, of_decide_eq_true h'.2⟩
  have key : ∀ i, i ≤ rs.length → x.take i ∈ allT (rs.take i) := by
    intro i
    induction i with
    | zero => intro _; exact List.mem_singleton.mpr rfl
    | succ i ih =>
      intro hi
      have hr : rs[i]? = some rs[i] := List.getElem?_eq_getElem (by omega)
      have hx : x[i]? = some x[i] := List.getElem?_eq_getElem (by omega)
      have hb := hin i (by omega)
      rw [getD_d hr, getD_at hx] at hb
      have e : allT (rs.take (i + 1)) = extT (allT (rs.take i)) rs[i].1 := by
        unfold allT
        rw [List.take_succ, hr, List.foldl_append]
        rfl
      rw [e, List.take_succ, hx]
      refine List.mem_flatMap.mpr ⟨_, ih (by omega), List.mem_map.mpr ⟨(x[i]).toNat, List.mem_range.mpr (by omega), ?_⟩⟩
      show x.take i ++ [((x[i]).toNat : Int)] = x.take i ++ [x[i]]
      rw [show ((x[i]).toNat : Int) = x[i] by omega]
  have := key rs.length (Nat.le_refl _)
  rw [List.take_of_length_le (Nat.le_refl _), List.take_of_length_le (by omega)] at this
  exact this
theorem plc_ok {k : Nat} {rs : List Rg} (hrs : ∀ r ∈ rs, rOk k 2 r) (k2 : 2 ≤ k) {ts : List Int} (htl : rs.length ≤ ts.length) (d : Int) :
    inP rs (plc rs ts) = true ∧ valsOf rs (plc rs ts) d k = (ts.take rs.length).reverse.foldl (rstep k) (vals0 k d rs.length) := by
  have hpl : (plc rs ts).length = rs.length := by
    unfold plc
    rw [List.length_map, List.length_range]
    omega
  have hat : ∀ (i : Nat) (r : Rg), rs[i]? = some r → (plc rs ts)[i]? = some ((ts.getD i 0 * r.2).fmod r.1) := fun i r hr => by
    have hi : i < rs.length := (List.getElem?_eq_some_iff.mp hr).1
    unfold plc
    rw [List.getElem?_map, List.getElem?_range (by omega)]
    show some ((ts.getD i 0 * (rs.getD i default).2).fmod (rs.getD i default).1) = _
    rw [getD_d hr]
  refine ⟨inTo_in (fun i hi => ?_) hpl, ?_⟩
  · rw [hpl] at hi
    have hr : rs[i]? = some rs[i] := List.getElem?_eq_getElem hi
    rw [List.getD_eq_getElem?_getD, hat i _ hr, getD_d hr]
    have := fmod_in (ts.getD i 0 * rs[i].2) (rok_pos (hrs _ (List.mem_of_getElem? hr)) k2)
    show 0 ≤ (ts.getD i 0 * rs[i].2).fmod rs[i].1 ∧ _
    exact ⟨this.1, by have := this.2; show (ts.getD i 0 * rs[i].2).fmod rs[i].1 ≤ _; omega⟩
  · unfold valsOf
    have l1 : (rs.zip (plc rs ts)).length = rs.length := by rw [List.length_zip, hpl, Nat.min_self]
    have l2 : (ts.take rs.length).length = rs.length := by rw [List.length_take]; omega
    refine fold_same _ _ (by rw [List.length_reverse, List.length_reverse, l1, l2]) (fun i q u hq hu v => ?_) _
    have hi : i < rs.length := by
      have := (List.getElem?_eq_some_iff.mp hq).1
      rw [List.length_reverse, l1] at this
      exact this
    rw [List.getElem?_reverse (by omega), l1, List.getElem?_zip_eq_some] at hq
    rw [List.getElem?_reverse (by omega), l2, List.getElem?_take_of_lt (by omega)] at hu
    obtain ⟨h1, h2⟩ := hq
    rw [hat _ _ h1] at h2
    obtain ⟨r, x⟩ := q
    have h1' : rs[rs.length - 1 - i]? = some r := h1
    have hx : x = (ts.getD (rs.length - 1 - i) 0 * r.2).fmod r.1 := (Option.some.inj h2).symm
    have hu2 : ts.getD (rs.length - 1 - i) 0 = u := getD_at hu
    rw [hx, hu2]
    exact step_rest (hrs r (List.mem_of_getElem? h1')) k2 v u
theorem facts2 : Facts2 where
  due_lt := fun k g t hk h1 h4 t0 t1 => by
    have c := (chk_at hk h1 h4 t0 t1).1
    unfold chkA at c
    simp only [Bool.and_eq_true] at c
    exact ltB_pw _ c.1.1.1
  met_due := fun k rs t hk hrs h1 h4 t0 t1 x hx => by
    have c := (chk_at hk h1 h4 t0 t1).1
    unfold chkA at c
    simp only [Bool.and_eq_true] at c
    have hxl : x.length = rs.length := by
      have := allT_len rs [[]] 0 (by simp) x hx
      omega
    rw [lev_same k rs x t (by omega) hrs hxl]
    have e : levs rs x t k = metO k rs.length t ((rs.zip x).map fun q => lrN q.1 (-q.2) k) := by
      unfold levs metO valsOf
      rw [← List.map_reverse, List.foldl_map]
      rfl
    rw [e]
    have hw : ((rs.zip x).map fun q => lrN q.1 (-q.2) k) ∈ wordsO k rs.length := by
      have := mem_wordsO (k := k) ((rs.zip x).map fun q => lrN q.1 (-q.2) k) fun o ho c hc => by
        obtain ⟨q, _, rfl⟩ := List.mem_map.mp ho
        exact lrN_lt hc
      rwa [List.length_map, List.length_zip, hxl, Nat.min_self] at this
    have := List.all_eq_true.mp c.1.2 _ hw
    exact List.elem_iff.mp this
  due_met := fun k rs t hk hrs h1 h4 t0 t1 l hl => by
    have c := (chk_at hk h1 h4 t0 t1).1
    unfold chkA at c
    simp only [Bool.and_eq_true] at c
    have := List.elem_iff.mp (List.all_eq_true.mp c.2 l hl)
    obtain ⟨ts, hts, rfl⟩ := List.mem_map.mp this
    have htl := wordsT_len _ _ hts
    obtain ⟨q1, q2⟩ := plc_ok hrs (show 2 ≤ k by omega) (ts := ts) (by omega) t
    refine ⟨plc rs ts, mem_allT q1, ?_⟩
    rw [lev_same k rs _ t (by omega) hrs (inP_len q1)]
    unfold levs
    rw [q2, List.take_of_length_le (by omega)]
    rfl
  due_ok := fun k g t hk h1 h4 t0 t1 l hl => by
    have c := (chk_at hk h1 h4 t0 t1).1
    unfold chkA at c
    simp only [Bool.and_eq_true] at c
    have := List.all_eq_true.mp c.1.1.2 l hl
    unfold okB at this
    simp only [Bool.and_eq_true, decide_eq_true_iff] at this
    obtain ⟨⟨⟨⟨a1, a2⟩, a3⟩, a4⟩, a5⟩ := this
    refine ⟨⟨a1, a2, fun n hn => ?_, by rw [← a4]; exact isort_ord l⟩, a5⟩
    have := List.all_eq_true.mp a3 n hn
    rw [Bool.and_eq_true] at this
    exact ⟨of_decide_eq_true this.1, of_decide_eq_true this.2⟩
  lev_len := fun k j g t hk hj h1 h4 t0 t1 => by
    have c := (chk_at hk h1 h4 t0 t1).2
    exact of_decide_eq_true (List.all_eq_true.mp c j (List.mem_range.mpr (by omega)))
end K7

theorem PySem.Challenge.cw_ringstairs_k70_whole_levels_that_can_be_holds : PySem.Challenge.rw_ringstairs_k70_whole_levels_that_can_be.Holds := by
  exact K7.holds K7.facts K7.facts2
