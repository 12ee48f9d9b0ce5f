import PyProof.Rows.All
import Wide.All
import OpenK.AllK
import Wide.FinOn
import HandS.ForMost
import HandS.Defaults
import HandS.IsInst
import HandS.TupSets
import HandS.TupAny
import HandS.TupMul
import HandS.Zip
import HandS.Walk
import HandS.Strs
import HandS.SetFor
import HandS.SortInts
import HandS.SortRule
import HandS.Flow
import KE.GoesMore
import KE.GoesEnum
import KE.KDictZip
import HandS.Style
import HandS.HeadHook1
import HandS.HeadHook2
import HandS.HeadHook3
import HandS.HeadHook4
import HandS.HeadEnd
import HandS.Head0
import HandS.Head1
import HandS.Head2
import KE.KStateDown
import PySem.Challenge.RW_wheelturns_k07_whole_cyclic_order
set_option Elab.async false
set_option linter.all false
set_option maxRecDepth 100000
set_option maxHeartbeats 4000000
/-! ### names of the text, calls of the text's own defs -/
namespace WT
open PySem PySem.Spec PyProof.Rows L2
def topp (i : Nat) : Stmt := PySem.Challenge.pw_wheelturns_k07_whole_cyclic_order.main.body.getD i (.Pass ⟨0, 0, 0, 0⟩)
abbrev s_is_integer : Stmt := topp 11
abbrev nm_is_integer : List Str := ["value", "low", "high"]
abbrev pr_is_integer : List Str := ["value", "low", "high"]
theorem sc_is_integer : FnScope nm_is_integer pr_is_integer (defScope s_is_integer) := ⟨rfl, rfl, rfl, by decide +kernel, rfl, by decide +kernel, by decide +kernel⟩
abbrev s_is_lengths : Stmt := topp 12
abbrev nm_is_lengths : List Str := ["value", "one"]
abbrev pr_is_lengths : List Str := ["value"]
theorem sc_is_lengths : FnScope nm_is_lengths pr_is_lengths (defScope s_is_lengths) := ⟨rfl, rfl, rfl, by decide +kernel, rfl, by decide +kernel, by decide +kernel⟩
abbrev s_need_lengths : Stmt := topp 13
abbrev nm_need_lengths : List Str := ["value"]
abbrev pr_need_lengths : List Str := ["value"]
theorem sc_need_lengths : FnScope nm_need_lengths pr_need_lengths (defScope s_need_lengths) := ⟨rfl, rfl, rfl, by decide +kernel, rfl, by decide +kernel, by decide +kernel⟩
abbrev s_is_turn : Stmt := topp 14
abbrev nm_is_turn : List Str := ["value"]
abbrev pr_is_turn : List Str := ["value"]
theorem sc_is_turn : FnScope nm_is_turn pr_is_turn (defScope s_is_turn) := ⟨rfl, rfl, rfl, by decide +kernel, rfl, by decide +kernel, by decide +kernel⟩
abbrev s_is_script : Stmt := topp 15
abbrev nm_is_script : List Str := ["value", "most", "turn"]
abbrev pr_is_script : List Str := ["value", "most"]
theorem sc_is_script : FnScope nm_is_script pr_is_script (defScope s_is_script) := ⟨rfl, rfl, rfl, by decide +kernel, rfl, by decide +kernel, by decide +kernel⟩
abbrev s_need_script : Stmt := topp 16
abbrev nm_need_script : List Str := ["value", "most"]
abbrev pr_need_script : List Str := ["value", "most"]
theorem sc_need_script : FnScope nm_need_script pr_need_script (defScope s_need_script) := ⟨rfl, rfl, rfl, by decide +kernel, rfl, by decide +kernel, by decide +kernel⟩
abbrev s_need_row : Stmt := topp 17
abbrev nm_need_row : List Str := ["lengths", "value"]
abbrev pr_need_row : List Str := ["lengths", "value"]
theorem sc_need_row : FnScope nm_need_row pr_need_row (defScope s_need_row) := ⟨rfl, rfl, rfl, by decide +kernel, rfl, by decide +kernel, by decide +kernel⟩
abbrev s_next_row : Stmt := topp 18
abbrev nm_next_row : List Str := ["lengths", "row", "turn"]
abbrev pr_next_row : List Str := ["lengths", "row", "turn"]
theorem sc_next_row : FnScope nm_next_row pr_next_row (defScope s_next_row) := ⟨rfl, rfl, rfl, by decide +kernel, rfl, by decide +kernel, by decide +kernel⟩
abbrev s_after_turn : Stmt := topp 19
abbrev nm_after_turn : List Str := ["lengths", "setting", "turn", "row", "column", "later"]
abbrev pr_after_turn : List Str := ["lengths", "setting", "turn"]
theorem sc_after_turn : FnScope nm_after_turn pr_after_turn (defScope s_after_turn) := ⟨rfl, rfl, rfl, by decide +kernel, rfl, by decide +kernel, by decide +kernel⟩
abbrev s_after_script : Stmt := topp 20
abbrev nm_after_script : List Str := ["lengths", "setting", "script", "turn"]
abbrev pr_after_script : List Str := ["lengths", "setting", "script"]
theorem sc_after_script : FnScope nm_after_script pr_after_script (defScope s_after_script) := ⟨rfl, rfl, rfl, by decide +kernel, rfl, by decide +kernel, by decide +kernel⟩
abbrev s_ends_of : Stmt := topp 22
abbrev nm_ends_of : List Str := ["lengths", "row", "script", "column"]
abbrev pr_ends_of : List Str := ["lengths", "row", "script"]
theorem sc_ends_of : FnScope nm_ends_of pr_ends_of (defScope s_ends_of) := ⟨rfl, rfl, rfl, by decide +kernel, rfl, by decide +kernel, by decide +kernel⟩
abbrev s_need_all : Stmt := topp 23
abbrev nm_need_all : List Str := ["lengths", "row", "script"]
abbrev pr_need_all : List Str := ["lengths", "row", "script"]
theorem sc_need_all : FnScope nm_need_all pr_need_all (defScope s_need_all) := ⟨rfl, rfl, rfl, by decide +kernel, rfl, by decide +kernel, by decide +kernel⟩
abbrev s_columns_after : Stmt := topp 24
abbrev nm_columns_after : List Str := ["lengths", "row", "script", "ends", "last", "column"]
abbrev pr_columns_after : List Str := ["lengths", "row", "script"]
theorem sc_columns_after : FnScope nm_columns_after pr_columns_after (defScope s_columns_after) := ⟨rfl, rfl, rfl, by decide +kernel, rfl, by decide +kernel, by decide +kernel⟩
abbrev s_kept : Stmt := topp 25
abbrev nm_kept : List Str := ["lengths", "row", "script"]
abbrev pr_kept : List Str := ["lengths", "row", "script"]
theorem sc_kept : FnScope nm_kept pr_kept (defScope s_kept) := ⟨rfl, rfl, rfl, by decide +kernel, rfl, by decide +kernel, by decide +kernel⟩
abbrev s_leading_to : Stmt := topp 26
abbrev nm_leading_to : List Str := ["lengths", "row", "script", "column", "place", "last", "end"]
abbrev pr_leading_to : List Str := ["lengths", "row", "script", "column"]
theorem sc_leading_to : FnScope nm_leading_to pr_leading_to (defScope s_leading_to) := ⟨rfl, rfl, rfl, by decide +kernel, rfl, by decide +kernel, by decide +kernel⟩
abbrev s_difference : Stmt := topp 27
abbrev nm_difference : List Str := ["lengths", "row", "first", "second", "column", "pair"]
abbrev pr_difference : List Str := ["lengths", "row", "first", "second"]
theorem sc_difference : FnScope nm_difference pr_difference (defScope s_difference) := ⟨rfl, rfl, rfl, by decide +kernel, rfl, by decide +kernel, by decide +kernel⟩
abbrev s_idle_turns : Stmt := topp 28
abbrev nm_idle_turns : List Str := ["lengths", "row", "script", "due", "found", "index"]
abbrev pr_idle_turns : List Str := ["lengths", "row", "script"]
theorem sc_idle_turns : FnScope nm_idle_turns pr_idle_turns (defScope s_idle_turns) := ⟨rfl, rfl, rfl, by decide +kernel, rfl, by decide +kernel, by decide +kernel⟩
abbrev s__law_cell_at : Stmt := topp 30
abbrev nm__law_cell_at : List Str := ["_law_script_here", "_law_k"]
abbrev pr__law_cell_at : List Str := ["_law_script_here", "_law_k"]
theorem sc__law_cell_at : FnScope nm__law_cell_at pr__law_cell_at (defScope s__law_cell_at) := ⟨rfl, rfl, rfl, by decide +kernel, rfl, by decide +kernel, by decide +kernel⟩
abbrev s__law_draws : Stmt := topp 31
abbrev nm__law_draws : List Str := ["_law_cell", "_law_many", "_law_size", "_law_found", "_law_rest", "_law_stirred", "_law_k"]
abbrev pr__law_draws : List Str := ["_law_cell", "_law_many", "_law_size"]
theorem sc__law_draws : FnScope nm__law_draws pr__law_draws (defScope s__law_draws) := ⟨rfl, rfl, rfl, by decide +kernel, rfl, by decide +kernel, by decide +kernel⟩
abbrev s__law_bag : Stmt := topp 32
abbrev nm__law_bag : List Str := ["_law_script_here", "_law_k"]
abbrev pr__law_bag : List Str := ["_law_script_here", "_law_k"]
theorem sc__law_bag : FnScope nm__law_bag pr__law_bag (defScope s__law_bag) := ⟨rfl, rfl, rfl, by decide +kernel, rfl, by decide +kernel, by decide +kernel⟩
abbrev s__law_bags : Stmt := topp 33
abbrev nm__law_bags : List Str := ["_law_script_here", "_law_limit", "_law_k"]
abbrev pr__law_bags : List Str := ["_law_script_here", "_law_limit"]
theorem sc__law_bags : FnScope nm__law_bags pr__law_bags (defScope s__law_bags) := ⟨rfl, rfl, rfl, by decide +kernel, rfl, by decide +kernel, by decide +kernel⟩
abbrev s__law_take : Stmt := topp 34
abbrev nm__law_take : List Str := ["_law_bag_here", "_law_many"]
abbrev pr__law_take : List Str := ["_law_bag_here", "_law_many"]
theorem sc__law_take : FnScope nm__law_take pr__law_take (defScope s__law_take) := ⟨rfl, rfl, rfl, by decide +kernel, rfl, by decide +kernel, by decide +kernel⟩
abbrev s__law_lengths : Stmt := topp 35
abbrev nm__law_lengths : List Str := ["_law_bag_here", "_law_rows", "_law_most", "_law_base", "_law_way", "_law_found", "_law_line", "_law_near", "_law_wide"]
abbrev pr__law_lengths : List Str := ["_law_bag_here", "_law_rows", "_law_most"]
theorem sc__law_lengths : FnScope nm__law_lengths pr__law_lengths (defScope s__law_lengths) := ⟨rfl, rfl, rfl, by decide +kernel, rfl, by decide +kernel, by decide +kernel⟩
abbrev s__law_turns : Stmt := topp 36
abbrev nm__law_turns : List Str := []
abbrev pr__law_turns : List Str := []
theorem sc__law_turns : FnScope nm__law_turns pr__law_turns (defScope s__law_turns) := ⟨rfl, rfl, rfl, by decide +kernel, rfl, by decide +kernel, by decide +kernel⟩
abbrev s__law_script : Stmt := topp 37
abbrev nm__law_script : List Str := ["_law_bag_here", "_law_most", "_law_found", "_law_part"]
abbrev pr__law_script : List Str := ["_law_bag_here", "_law_most"]
theorem sc__law_script : FnScope nm__law_script pr__law_script (defScope s__law_script) := ⟨rfl, rfl, rfl, by decide +kernel, rfl, by decide +kernel, by decide +kernel⟩
abbrev s__law_rising_around : Stmt := topp 38
abbrev nm__law_rising_around : List Str := ["_law_columns", "_law_rest", "_law_at", "_law_column"]
abbrev pr__law_rising_around : List Str := ["_law_columns"]
theorem sc__law_rising_around : FnScope nm__law_rising_around pr__law_rising_around (defScope s__law_rising_around) := ⟨rfl, rfl, rfl, by decide +kernel, rfl, by decide +kernel, by decide +kernel⟩
abbrev s__law_is_arc : Stmt := topp 39
abbrev nm__law_is_arc : List Str := ["_law_places", "_law_length", "_law_borders", "_law_place"]
abbrev pr__law_is_arc : List Str := ["_law_places", "_law_length"]
theorem sc__law_is_arc : FnScope nm__law_is_arc pr__law_is_arc (defScope s__law_is_arc) := ⟨rfl, rfl, rfl, by decide +kernel, rfl, by decide +kernel, by decide +kernel⟩
abbrev s_law : Stmt := topp 40
abbrev nm_law : List Str := ["_law_script_here", "_law_bag_here", "_law_lengths_here", "_law_row", "_law_turns_here", "_law_last", "_law_columns", "_law_column", "_law_places", "_law_numbers", "_law_at", "_law_middle", "_law_some", "_law_later", "_law_idle", "_law_size", "_law_place", "_law_end"]
abbrev pr_law : List Str := ["_law_script_here"]
theorem sc_law : FnScope nm_law pr_law (defScope s_law) := ⟨rfl, rfl, rfl, by decide +kernel, rfl, by decide +kernel, by decide +kernel⟩
/-- a def of the text that keeps its promise, as callers see it; dvs: the defaults that fill up -/
structure Def (P : Program) (w : World) (K : PySem.W.Frag) (mg : Str → Option Value) (base : Heap) (x : Str) (k : Nat) (ps : List Str) (dvs : List V) (sp : Sp) : Prop where
  ex : ∃ (f : Addr) (fd : FuncData) (ds : List Value), mg x = some (.ref f) ∧ FnOk P w K mg base CX0 k f fd ps sp ∧ PySem.W.keepIn K (.ref f) = true ∧ Binds K fd ps ds ∧ Vals dvs ds
/-- a def as it stands: x the name, st the statement -/
structure Std (K : PySem.W.Frag) (mg : Str → Option Value) (x : Str) (st : Stmt) (dvs : List V) (f : Addr) (fd : FuncData) : Prop where
  fn : FunD K x x (defArgs st) (defBody st) (defScope st) dvs [] f fd
  gl : mg x = some (.ref f)
section
variable {X : Cx} {x : Str} {k : Nat} {ps : List Str} {dvs : List V} {sp : Sp} {t : TA} {e : Expr} {es : List Expr} {p pos : Pos}
theorem pe_callD (D : Def X.prog X.w X.K X.mg X.base x k ps dvs sp) (hr : Room k X.A) (hg : Gl X x)
    (ha : PA X (e :: es) t) (nd : (x == ("__debug__" : Str)) = false := by decide) (st : starEach (e :: es) X.env = (false, eval e X.env) :: starEach es X.env := by rfl)
    (pl : (backTo pos (starEach es X.env)).any (·.1) = false := by rfl) : PE X (.Call (.Name x p) (e :: es) [] pos) (tCall sp dvs E0 t) := by
  obtain ⟨f, fd, ds, h1, h2, h3, h4, h5⟩ := D.ex
  exact pe_call h2 hr hg h1 h3 h4 h5 pass0 ha nd st pl
theorem pe_callD0 (D : Def X.prog X.w X.K X.mg X.base x k ps dvs sp) (hr : Room k X.A) (hg : Gl X x) (hdb : (x == ("__debug__" : Str)) = false := by decide) :
    PE X (.Call (.Name x p) [] [] pos) (tCall sp dvs E0 tNil) := by
  obtain ⟨f, fd, ds, h1, h2, h3, h4, h5⟩ := D.ex
  exact pe_call0 h2 hr hg h1 h3 h4 h5 pass0 hdb
theorem pe_globI {i : Int} (hg : Gl X x) (h : ∃ t, X.mg x = some (.int i t)) (hd : (x == ("__debug__" : Str)) = false := by decide) : PE X (.Name x p) (tC (.int i)) := by
  obtain ⟨t, h⟩ := h
  exact pe_glob hg h ⟨t, rfl⟩ hd
end
/-- what the module's namespace holds -/
structure Gb (K : PySem.W.Frag) (mg : Str → Option Value) : Prop where
  len_ : mg "len" = none
  isinstance_ : mg "isinstance" = none
  range_ : mg "range" = none
  min_ : mg "min" = none
  max_ : mg "max" = none
  int_ : mg "int" = none
  bool_ : mg "bool" = none
  tuple_ : mg "tuple" = none
  str_ : mg "str" = none
  set_ : mg "set" = none
  all_ : mg "all" = none
  sorted_ : mg "sorted" = none
  enumerate_ : mg "enumerate" = none
  zip_ : mg "zip" = none
  list_ : mg "list" = none
  MAX_ROWS : ∃ t, mg "MAX_ROWS" = some (.int 12 t)
  MAX_LENGTH : ∃ t, mg "MAX_LENGTH" = some (.int 31 t)
  MAX_SCRIPT : ∃ t, mg "MAX_SCRIPT" = some (.int 200 t)
  TURNS : mg "TURNS" = some (.ref (He.ga K "TURNS"))
  TURNST : ∀ H, SqT K H (He.ga K "TURNS") [.str "C+", .str "C-", .str "R+", .str "R-"]
section
variable {P : Program} {w : World} {K : PySem.W.Frag} {mg : Str → Option Value} {base : Heap} {f : Addr} {fd : FuncData}
/-- from a body's walk to the callers' view; no defaults -/
theorem Def.of {x : Str} {st : Stmt} {N ps : List Str} {k : Nat} {sp : Sp} (F : Std K mg x st [] f fd) (S : FnScope N ps (defScope st))
    (h : ∀ (kV doc pm : Value) (an : Option Addr) (cdv ct : Value) (us : List Value), us.length = ps.length → bindArgs (PySem.W.fnOf x x (defArgs st) (defBody st) (defScope st) .none kV doc pm an cdv ct) ⟨us, []⟩ = pure (ps.zip us))
    (len : ∀ vs H Q E, sp vs H Q E → vs.length = ps.length) (hbody : ∀ (cdv : Value) (A : Around) (outer : List Env) (s : Shared) (H : Hp) (vs : List V) (Q : VK) (E : XK), Room k (A.deeper (envOfC x (defScope st) s.heap.objs.size f cdv)) → sp vs H Q E →
      ∃ t, PSs (cxOf CX0 P w K mg base N x (defScope st) f cdv A outer s H E).nox (defBody st) t ∧ t { nx := fun _ H' => Q .non H', rt := Q } (start N vs) H) : Def P w K mg base x (k + 1) ps [] sp :=
  ⟨f, fd, [], F.gl, F.fn.ok S len fun cdv A outer s H vs Q E hr q => let ⟨t, h1, h2⟩ := hbody cdv A outer s H vs Q E hr q; ⟨t, h1.nox, h2⟩, F.fn.kp, F.fn.bindsN h, .nil⟩
end
/-! ### heaps -/
theorem _root_.L2.Same.seqT {K : PySem.W.Frag} {H H' : Hp} {a : Addr} {xs : List V} (e : Same H H') (h : SqT K H a xs) : SqT K H' a xs := by
  exact h.imp (fun z => z.imp (e _ _) fun ⟨o, z⟩ => ⟨o, e _ _ z⟩) id
theorem same_upd {H : Hp} {p : Addr} {o : HO} (new : H p = none) : Same H (upd H p o) := fun b u q => (upd_ne (ne_of_none q new)).trans q
end WT
set_option maxHeartbeats 4000000
namespace WT
/-! turns and settings in plain Lean -/
inductive Trn where
  | cp | cm | rp | rm
  deriving DecidableEq
def nxR (n : Nat) (r : Nat) : Trn → Nat
  | .rp => (r + 1) % n
  | .rm => (r + n - 1) % n
  | _ => r
def at0 (L : List Nat) (r : Nat) : Nat := L.getD r 0
def step (L : List Nat) (p : Nat × Nat) (t : Trn) : Nat × Nat :=
  match t with
  | .cp => (p.1, (p.2 + 1) % at0 L p.1)
  | .cm => (p.1, (p.2 + at0 L p.1 - 1) % at0 L p.1)
  | t => (nxR L.length p.1 t, min p.2 (at0 L (nxR L.length p.1 t) - 1))
def run (L : List Nat) (p : Nat × Nat) (s : List Trn) : Nat × Nat := s.foldl (step L) p
/-- lengths: 1 to 12 rows, 1 to 31 columns -/
structure Lens (L : List Nat) : Prop where
  ne : 0 < L.length
  le : L.length ≤ 12
  pos : ∀ n ∈ L, 1 ≤ n ∧ n ≤ 31
theorem at0_mem {L : List Nat} {r : Nat} (h : r < L.length) : at0 L r ∈ L := by
  unfold at0
  rw [List.getD_eq_getElem?_getD, List.getElem?_eq_getElem h]
  exact List.getElem_mem h
theorem Lens.at_pos {L : List Nat} (l : Lens L) {r : Nat} (h : r < L.length) : 1 ≤ at0 L r ∧ at0 L r ≤ 31 := l.pos _ (at0_mem h)
/-- a setting -/
def Fits (L : List Nat) (p : Nat × Nat) : Prop := p.1 < L.length ∧ p.2 < at0 L p.1
theorem nxR_lt {n r : Nat} (t : Trn) (h : r < n) : nxR n r t < n := by
  cases t <;> unfold nxR <;> first | exact h | exact Nat.mod_lt _ (by omega)
theorem step_fits {L : List Nat} (l : Lens L) {p : Nat × Nat} (t : Trn) (h : Fits L p) : Fits L (step L p t) := by
  obtain ⟨h1, h2⟩ := h
  have q := nxR_lt t h1
  have a := l.at_pos h1
  have b := l.at_pos q
  cases t
  · exact ⟨h1, Nat.mod_lt _ (by omega)⟩
  · exact ⟨h1, Nat.mod_lt _ (by omega)⟩
  · exact ⟨q, by show min p.2 (at0 L (nxR L.length p.1 .rp) - 1) < at0 L (nxR L.length p.1 .rp); omega⟩
  · exact ⟨q, by show min p.2 (at0 L (nxR L.length p.1 .rm) - 1) < at0 L (nxR L.length p.1 .rm); omega⟩
theorem run_fits {L : List Nat} (l : Lens L) : ∀ (s : List Trn) {p : Nat × Nat}, Fits L p → Fits L (run L p s)
  | [], _, h => h
  | t :: s, _, h => run_fits l s (step_fits l t h)
theorem run_append (L : List Nat) (p : Nat × Nat) (s u : List Trn) : run L p (s ++ u) = run L (run L p s) u := List.foldl_append
/-- the row after a script does not depend on the column -/
def rowOf (n : Nat) (r : Nat) (s : List Trn) : Nat := s.foldl (nxR n) r
theorem step_row (L : List Nat) (p : Nat × Nat) (t : Trn) : (step L p t).1 = nxR L.length p.1 t := by cases t <;> rfl
theorem run_row (L : List Nat) : ∀ (s : List Trn) (p : Nat × Nat), (run L p s).1 = rowOf L.length p.1 s
  | [], _ => rfl
  | t :: s, p => by
    show (run L (step L p t) s).1 = rowOf L.length (nxR L.length p.1 t) s
    rw [run_row L s, step_row]

/-! ### the lift: columns go around monotonely -/
/-- c is a list of columns of a wheel with k columns that rise around it -/
structure Arnd (k : Nat) (a : List Int) (c : List Nat) : Prop where
  pos : 0 < k
  mono : a.Pairwise (· ≤ ·)
  win : ∀ x ∈ a, ∀ y ∈ a, y ≤ x + k
  map : a.map (fun x => (x % (k : Int)).toNat) = c
def lift (k k' : Nat) (x : Int) : Int := (k' : Int) * (x / (k : Int)) + min (x % (k : Int)) ((k' : Int) - 1)
theorem lift_mono {k k' : Nat} (hk : 0 < k) (hk' : 0 < k') {x y : Int} (h : x ≤ y) : lift k k' x ≤ lift k k' y := by
  have hk0 : (0 : Int) < k := by omega
  have hd : x / (k : Int) ≤ y / (k : Int) := Int.ediv_le_ediv hk0 h
  have mx := Int.emod_nonneg x (Int.ne_of_gt hk0)
  have my := Int.emod_nonneg y (Int.ne_of_gt hk0)
  have ex := Int.mul_ediv_add_emod x k
  have ey := Int.mul_ediv_add_emod y k
  unfold lift
  by_cases e : x / (k : Int) = y / (k : Int)
  · rw [e] at ex ⊢
    have : x % (k : Int) ≤ y % (k : Int) := by omega
    omega
  · have h1 : x / (k : Int) + 1 ≤ y / (k : Int) := by omega
    have h2 : (k' : Int) * (x / (k : Int) + 1) ≤ (k' : Int) * (y / (k : Int)) := Int.mul_le_mul_of_nonneg_left h1 (by omega)
    rw [Int.mul_add] at h2
    omega
theorem lift_period {k k' : Nat} (hk : 0 < k) (x : Int) : lift k k' (x + k) = lift k k' x + k' := by
  have hk0 : (k : Int) ≠ 0 := by omega
  unfold lift
  rw [Int.add_ediv_of_dvd_right (Int.dvd_refl _), Int.ediv_self hk0, Int.add_emod_right, Int.mul_add]
  omega
theorem lift_mod {k k' : Nat} (hk : 0 < k) (hk' : 0 < k') (x : Int) : ((lift k k' x) % (k' : Int)).toNat = min (x % (k : Int)).toNat (k' - 1) := by
  have hk0 : (0 : Int) < k := by omega
  have mx := Int.emod_nonneg x (Int.ne_of_gt hk0)
  unfold lift
  rw [Int.add_emod, Int.mul_emod_right, Int.zero_add, Int.emod_emod, Int.emod_eq_of_lt (by omega) (by omega)]
  omega
theorem arnd_map {k k' : Nat} {a : List Int} {c : List Nat} (f : Int → Int) (g : Nat → Nat) (A : Arnd k a c) (hk' : 0 < k')
    (hm : ∀ x y, x ≤ y → f x ≤ f y) (hp : ∀ x, f (x + k) = f x + k') (hg : ∀ x : Int, (f x % (k' : Int)).toNat = g (x % (k : Int)).toNat) : Arnd k' (a.map f) (c.map g) where
  pos := hk'
  mono := List.Pairwise.map f (fun x y h => hm x y h) A.mono
  win := by
    intro x hx y hy
    obtain ⟨x', hx', rfl⟩ := List.mem_map.mp hx
    obtain ⟨y', hy', rfl⟩ := List.mem_map.mp hy
    have := hm _ _ (A.win x' hx' y' hy')
    rw [hp] at this
    exact this
  map := by
    rw [← A.map, List.map_map, List.map_map]
    exact List.map_congr_left fun x _ => hg x
/-- the columns that a row's columns are led to -/
def colsOf (L : List Nat) (r : Nat) (s : List Trn) : List Nat := (List.range (at0 L r)).map fun i => (run L (r, i) s).2
theorem colsOf_snoc (L : List Nat) (r : Nat) (s : List Trn) (t : Trn) : colsOf L r (s ++ [t]) = (colsOf L r s).map fun c => (step L (rowOf L.length r s, c) t).2 := by
  unfold colsOf
  rw [List.map_map]
  refine List.map_congr_left fun i _ => ?_
  show (run L (r, i) (s ++ [t])).2 = (step L (rowOf L.length r s, (run L (r, i) s).2) t).2
  rw [run_append]
  have e : (rowOf L.length r s, (run L (r, i) s).2) = run L (r, i) s := by
    rw [← run_row L s (r, i)]
  rw [e]
  rfl
theorem rowOf_lt {n : Nat} : ∀ (s : List Trn) {r : Nat}, r < n → rowOf n r s < n
  | [], _, h => h
  | t :: s, _, h => rowOf_lt s (nxR_lt t h)
theorem rowOf_append (n r : Nat) (s u : List Trn) : rowOf n r (s ++ u) = rowOf n (rowOf n r s) u := List.foldl_append
theorem range_lift (m : Nat) (hm : 0 < m) : Arnd m ((List.range m).map fun i : Nat => (i : Int)) (List.range m) where
  pos := hm
  mono := by
    refine List.Pairwise.map _ (fun x y h => ?_) (List.pairwise_lt_range (n := m))
    exact Int.ofNat_le.mpr (Nat.le_of_lt h)
  win := by
    intro x hx y hy
    obtain ⟨x', hx', rfl⟩ := List.mem_map.mp hx
    obtain ⟨y', hy', rfl⟩ := List.mem_map.mp hy
    have := List.mem_range.mp hy'
    omega
  map := by
    rw [List.map_map]
    conv => rhs; rw [← List.map_id (List.range m)]
    refine List.map_congr_left fun i hi => ?_
    have := List.mem_range.mp hi
    show ((i : Int) % (m : Int)).toNat = i
    rw [Int.emod_eq_of_lt (by omega) (by omega)]
    omega
theorem snoc_ind {α : Type} {P : List α → Prop} (h0 : P []) (h1 : ∀ s t, P s → P (s ++ [t])) (s : List α) : P s := by
  have key : ∀ n, ∀ s : List α, s.length = n → P s := by
    intro n
    induction n with
    | zero => intro s hs; rw [List.length_eq_zero_iff.mp hs]; exact h0
    | succ n ih =>
      intro s hs
      have hne : s ≠ [] := fun e => by rw [e] at hs; cases hs
      rw [← List.dropLast_concat_getLast hne]
      exact h1 _ _ (ih _ (by rw [List.length_dropLast]; omega))
  exact key _ s rfl
theorem cols_arnd {L : List Nat} (l : Lens L) {r : Nat} (hr : r < L.length) (s : List Trn) : ∃ a, Arnd (at0 L (rowOf L.length r s)) a (colsOf L r s) := by
  induction s using snoc_ind with
  | h0 =>
    have q := l.at_pos hr
    have e : colsOf L r [] = List.range (at0 L r) := by
      unfold colsOf
      exact List.map_id' _
    exact ⟨_, e ▸ range_lift _ (by omega)⟩
  | h1 s t ih =>
    obtain ⟨a, A⟩ := ih
    rw [colsOf_snoc, rowOf_append]
    have hr' := rowOf_lt s hr
    show ∃ a, Arnd (at0 L (nxR L.length (rowOf L.length r s) t)) a _
    generalize rowOf L.length r s = q at *
    have k1 := l.at_pos hr'
    have k2 := l.at_pos (nxR_lt t hr')
    cases t
    · -- C+
      refine ⟨_, arnd_map (fun x => x + 1) _ A (by omega) (fun x y h => by omega) (fun x => ?_) fun x => ?_⟩
      · show x + (at0 L q : Int) + 1 = x + 1 + (at0 L q : Int); omega
      · show ((x + 1) % (at0 L q : Int)).toNat = ((x % (at0 L q : Int)).toNat + 1) % at0 L q
        have mx := Int.emod_nonneg x (show (at0 L q : Int) ≠ 0 by omega)
        rw [← Int.toNat_natCast (((x % (at0 L q : Int)).toNat + 1) % at0 L q), Int.natCast_emod, Int.natCast_add, Int.toNat_of_nonneg mx]
        congr 1
        show (x + 1) % (at0 L q : Int) = (x % (at0 L q : Int) + 1) % (at0 L q : Int)
        rw [Int.add_emod x 1, Int.add_emod (x % _) 1, Int.emod_emod]
    · refine ⟨_, arnd_map (fun x => x - 1) _ A (by omega) (fun x y h => by omega) (fun x => ?_) fun x => ?_⟩
      · show x + (at0 L q : Int) - 1 = x - 1 + (at0 L q : Int); omega
      · show ((x - 1) % (at0 L q : Int)).toNat = ((x % (at0 L q : Int)).toNat + at0 L q - 1) % at0 L q
        have mx := Int.emod_nonneg x (show (at0 L q : Int) ≠ 0 by omega)
        have e : (((x % (at0 L q : Int)).toNat + at0 L q - 1 : Nat) : Int) = x % (at0 L q : Int) + (at0 L q : Int) - 1 := by omega
        rw [← Int.toNat_natCast (((x % (at0 L q : Int)).toNat + at0 L q - 1) % at0 L q), Int.natCast_emod, e]
        congr 1
        rw [show x % (at0 L q : Int) + (at0 L q : Int) - 1 = x % (at0 L q : Int) - 1 + (at0 L q : Int) by omega, Int.add_emod_right, Int.sub_emod x 1, Int.sub_emod (x % _) 1, Int.emod_emod]
    · exact ⟨_, arnd_map (lift (at0 L q) (at0 L (nxR L.length q .rp))) _ A (by omega) (fun x y h => lift_mono (by omega) (by omega) h) (fun x => lift_period (by omega) x) fun x => lift_mod (by omega) (by omega) x⟩
    · exact ⟨_, arnd_map (lift (at0 L q) (at0 L (nxR L.length q .rm))) _ A (by omega) (fun x y h => lift_mono (by omega) (by omega) h) (fun x => lift_period (by omega) x) fun x => lift_mod (by omega) (by omega) x⟩

/-! ### rising around -/
/-- the items that differ from the one ahead -/
def filt : Nat → List Nat → List Nat
  | _, [] => []
  | p, x :: l => if x = p then filt x l else x :: filt x l
/-- the steps down -/
def desc : Nat → List Nat → Nat
  | _, [] => 0
  | p, x :: l => (if x < p then 1 else 0) + desc x l
def md (k : Nat) (x : Int) : Nat := (x % (k : Int)).toNat
theorem md_eq {k : Nat} (hk : 0 < k) {x y : Int} (h : md k x = md k y) (h1 : x ≤ y) (h2 : y ≤ x + k) : x = y ∨ y = x + k := by
  have hk0 : (0 : Int) < k := by omega
  have mx := Int.emod_nonneg x (Int.ne_of_gt hk0)
  have my := Int.emod_nonneg y (Int.ne_of_gt hk0)
  have lx := Int.emod_lt_of_pos x hk0
  have ly := Int.emod_lt_of_pos y hk0
  have ex := Int.mul_ediv_add_emod x k
  have ey := Int.mul_ediv_add_emod y k
  have e : x % (k : Int) = y % (k : Int) := by unfold md at h; omega
  by_cases c : x / (k : Int) = y / (k : Int)
  · rw [c] at ex; omega
  · by_cases c2 : x / (k : Int) + 1 = y / (k : Int)
    · rw [← c2, Int.mul_add] at ey; omega
    · by_cases c3 : y / (k : Int) < x / (k : Int)
      · have h3 : (k : Int) * (y / (k : Int) + 1) ≤ (k : Int) * (x / (k : Int)) := Int.mul_le_mul_of_nonneg_left (by omega) (by omega)
        rw [Int.mul_add] at h3; omega
      · have h3 : (k : Int) * (x / (k : Int) + 2) ≤ (k : Int) * (y / (k : Int)) := Int.mul_le_mul_of_nonneg_left (by omega) (by omega)
        rw [Int.mul_add] at h3; omega
theorem filt_lift {k : Nat} (hk : 0 < k) : ∀ (a : List Int) (p : Int), (p :: a).Pairwise (· ≤ ·) → (∀ x ∈ a, x ≤ p + k) →
    ∃ b : List Int, filt (md k p) (a.map (md k)) = b.map (md k) ∧ b.Pairwise (· < ·) ∧ (∀ x ∈ b, p < x) ∧ (∀ x ∈ b, x ∈ a)
  | [], p, _, _ => ⟨[], rfl, List.Pairwise.nil, ⟨fun x h => (List.not_mem_nil h).elim, fun x h => h⟩⟩
  | x :: a, p, hp, hw => by
    obtain ⟨h1, h2⟩ := List.pairwise_cons.mp hp
    have hxp := h1 x (List.mem_cons_self ..)
    obtain ⟨b, e, bs, bp, bm⟩ := filt_lift hk a x h2 fun y hy => by
      have := hw y (List.mem_cons_of_mem _ hy)
      omega
    show ∃ b : List Int, (if md k x = md k p then filt (md k x) (a.map (md k)) else md k x :: filt (md k x) (a.map (md k))) = _ ∧ _
    by_cases c : md k x = md k p
    · rw [if_pos c]
      exact ⟨b, e, bs, fun y hy => by have := bp y hy; omega, fun y hy => List.mem_cons_of_mem _ (bm y hy)⟩
    · rw [if_neg c]
      refine ⟨x :: b, by rw [e]; rfl, List.pairwise_cons.mpr ⟨bp, bs⟩, fun y hy => ?_, fun y hy => ?_⟩
      · have : p < x := by
          rcases Int.lt_or_eq_of_le hxp with h | h
          · exact h
          · exact absurd (by rw [h]) c
        rcases List.mem_cons.mp hy with rfl | hy
        · exact this
        · have := bp y hy; omega
      · rcases List.mem_cons.mp hy with rfl | hy
        · exact List.mem_cons_self ..
        · exact List.mem_cons_of_mem _ (bm y hy)
/-- rising lifts within one turn: different columns, at most one step down -/
theorem win_nodup {k : Nat} (hk : 0 < k) {b : List Int} {q : Int} (hs : b.Pairwise (· < ·)) (h1 : ∀ x ∈ b, q ≤ x) (h2 : ∀ x ∈ b, x < q + k) : (b.map (md k)).Nodup := by
  refine List.pairwise_map.mpr ?_
  refine List.Pairwise.imp_of_mem (fun {x y} hx hy h e => ?_) hs
  have a1 := h1 x hx
  have a2 := h2 y hy
  rcases md_eq hk e (by omega) (by omega) with h' | h' <;> omega
theorem div_le {k : Nat} (hk : 0 < k) {x y : Int} (h : x ≤ y) : x / (k : Int) ≤ y / (k : Int) := Int.ediv_le_ediv (by omega) h
theorem desc_div {k : Nat} (hk : 0 < k) {x y : Int} (h : x ≤ y) : ((if md k y < md k x then 1 else 0 : Nat) : Int) + x / (k : Int) ≤ y / (k : Int) := by
  have hk0 : (0 : Int) < k := by omega
  have hd := div_le hk h
  have mx := Int.emod_nonneg x (Int.ne_of_gt hk0)
  have my := Int.emod_nonneg y (Int.ne_of_gt hk0)
  have ex := Int.mul_ediv_add_emod x k
  have ey := Int.mul_ediv_add_emod y k
  by_cases c : md k y < md k x
  · rw [if_pos c]
    have hne : x / (k : Int) ≠ y / (k : Int) := fun e => by
      rw [e] at ex
      unfold md at c
      omega
    omega
  · rw [if_neg c]; omega
theorem desc_sum {k : Nat} (hk : 0 < k) : ∀ (b : List Int) (x : Int), (x :: b).Pairwise (· < ·) →
    (desc (md k x) (b.map (md k)) : Int) + x / (k : Int) ≤ ((x :: b).getLast (List.cons_ne_nil _ _)) / (k : Int)
  | [], x, _ => by simp [desc]
  | y :: b, x, h => by
    obtain ⟨h1, h2⟩ := List.pairwise_cons.mp h
    have ih := desc_sum hk b y h2
    have d := desc_div hk (Int.le_of_lt (h1 y (List.mem_cons_self ..)))
    rw [List.getLast_cons (List.cons_ne_nil _ _)]
    show (((if md k y < md k x then 1 else 0) + desc (md k y) (b.map (md k)) : Nat) : Int) + _ ≤ _
    rw [Int.natCast_add]
    omega
theorem win_desc {k : Nat} (hk : 0 < k) {b : List Int} {q : Int} (hs : b.Pairwise (· < ·)) (h1 : ∀ x ∈ b, q ≤ x) (h2 : ∀ x ∈ b, x < q + k) : desc ((b.map (md k)).getLast?.getD 0) (b.map (md k)) ≤ 1 := by
  cases b with
  | nil => exact Nat.zero_le _
  | cons x b =>
    have s := desc_sum hk b x hs
    have hl : (x :: b).getLast (List.cons_ne_nil _ _) ∈ x :: b := List.getLast_mem _
    have e : ((x :: b).map (md k)).getLast?.getD 0 = md k ((x :: b).getLast (List.cons_ne_nil _ _)) := by
      rw [List.getLast?_map, List.getLast?_eq_some_getLast (List.cons_ne_nil _ _)]
      rfl
    rw [e]
    generalize (x :: b).getLast (List.cons_ne_nil _ _) = z at *
    show (if md k x < md k z then 1 else 0) + desc (md k x) (b.map (md k)) ≤ 1
    have a1 := h1 x (List.mem_cons_self ..)
    have a2 := h2 z hl
    have hk0 : (0 : Int) < k := by omega
    have mx := Int.emod_nonneg x (Int.ne_of_gt hk0)
    have mz := Int.emod_nonneg z (Int.ne_of_gt hk0)
    have lz := Int.emod_lt_of_pos z hk0
    have lx := Int.emod_lt_of_pos x hk0
    have ex := Int.mul_ediv_add_emod x k
    have ez := Int.mul_ediv_add_emod z k
    have up : z / (k : Int) ≤ x / (k : Int) + 1 := by
      rcases Int.lt_or_le (x / (k : Int) + 1) (z / (k : Int)) with h | h
      · have h3 : (k : Int) * (x / (k : Int) + 2) ≤ (k : Int) * (z / (k : Int)) := Int.mul_le_mul_of_nonneg_left (by omega) (by omega)
        rw [Int.mul_add] at h3; omega
      · exact h
    by_cases c : md k x < md k z
    · rw [if_pos c]
      have : z / (k : Int) ≠ x / (k : Int) + 1 := fun e => by
        rw [e, Int.mul_add] at ez
        unfold md at c
        omega
      omega
    · rw [if_neg c]; omega
/-- the law's rising_around, in plain Lean -/
def rest (c : List Nat) : List Nat := filt (c.getLast?.getD 0) c
theorem rising {k : Nat} {a : List Int} {c : List Nat} (A : Arnd k a c) : (rest c).Nodup ∧ desc ((rest c).getLast?.getD 0) (rest c) ≤ 1 := by
  have hk := A.pos
  have hc : a.map (md k) = c := A.map
  cases a with
  | nil =>
    subst hc
    exact ⟨List.nodup_nil, Nat.zero_le _⟩
  | cons x a =>
    obtain ⟨h1, h2⟩ := List.pairwise_cons.mp A.mono
    have hw : ∀ y ∈ a, y ≤ x + k := fun y hy => A.win x (List.mem_cons_self ..) y (List.mem_cons_of_mem _ hy)
    obtain ⟨b, e, bs, bp, bm⟩ := filt_lift hk a x A.mono hw
    have er : rest c = (if md k x = md k ((x :: a).getLast (List.cons_ne_nil _ _)) then b.map (md k) else (x :: b).map (md k)) := by
      unfold rest
      rw [← hc, List.getLast?_map, List.getLast?_eq_some_getLast (List.cons_ne_nil _ _)]
      show (if md k x = md k _ then filt (md k x) (a.map (md k)) else md k x :: filt (md k x) (a.map (md k))) = _
      rw [e]
      rfl
    rw [er]
    by_cases c2 : md k x = md k ((x :: a).getLast (List.cons_ne_nil _ _))
    · rw [if_pos c2]
      have g1 : ∀ y ∈ b, x + 1 ≤ y := fun y hy => by have := bp y hy; omega
      have g2 : ∀ y ∈ b, y < x + 1 + k := fun y hy => by have := hw y (bm y hy); omega
      exact ⟨win_nodup hk bs g1 g2, win_desc hk bs g1 g2⟩
    · rw [if_neg c2]
      have g0 : (x :: b).Pairwise (· < ·) := List.pairwise_cons.mpr ⟨bp, bs⟩
      have g1 : ∀ y ∈ x :: b, x ≤ y := fun y hy => by
        rcases List.mem_cons.mp hy with rfl | hy
        · exact Int.le_refl _
        · exact Int.le_of_lt (bp y hy)
      have g2 : ∀ y ∈ x :: b, y < x + k := fun y hy => by
        rcases List.mem_cons.mp hy with rfl | hy
        · omega
        · have u := hw y (bm y hy)
          rcases Int.lt_or_eq_of_le u with u | u
          · exact u
          · refine absurd ?_ c2
            have l1 : y ≤ (x :: a).getLast (List.cons_ne_nil _ _) := by
              have hm : y ∈ x :: a := List.mem_cons_of_mem _ (bm y hy)
              clear hw e er c2
              have gen : ∀ (l : List Int) (hl : l ≠ []), l.Pairwise (· ≤ ·) → ∀ z ∈ l, z ≤ l.getLast hl := by
                intro l
                induction l with
                | nil => intro hl; exact absurd rfl hl
                | cons w l ih =>
                  intro hl hp z hz
                  obtain ⟨p1, p2⟩ := List.pairwise_cons.mp hp
                  cases l with
                  | nil =>
                    rcases List.mem_cons.mp hz with rfl | hz
                    · exact Int.le_refl _
                    · cases hz
                  | cons v l =>
                    rw [List.getLast_cons (List.cons_ne_nil _ _)]
                    rcases List.mem_cons.mp hz with rfl | hz
                    · exact p1 _ (List.getLast_mem _)
                    · exact ih _ p2 z hz
              exact gen _ _ A.mono y hm
            have l2 : (x :: a).getLast (List.cons_ne_nil _ _) ≤ x + k := A.win x (List.mem_cons_self ..) _ (List.getLast_mem _)
            have l3 : (x :: a).getLast (List.cons_ne_nil _ _) = x + k := by omega
            rw [l3]
            unfold md
            rw [Int.add_emod_right]
      exact ⟨win_nodup hk g0 g1 g2, win_desc hk g0 g1 g2⟩
/-- what a script puts together is an arc: at most one place of c has another column behind it -/
theorem arc {k : Nat} {a : List Int} {c : List Nat} (A : Arnd k a c) {v i j : Nat} (hi : i < c.length) (hj : j < c.length) (ei : c[i]? = some v) (ej : c[j]? = some v)
    (ni : c[(i + 1) % c.length]? ≠ some v) (nj : c[(j + 1) % c.length]? ≠ some v) : i = j := by
  have key : ∀ i j, i < j → j < c.length → c[i]? = some v → c[j]? = some v → c[(i + 1) % c.length]? ≠ some v → c[(j + 1) % c.length]? ≠ some v → False := by
    clear ei ej ni nj hi hj i j
    intro i j hij hj ei ej ni nj
    have hk := A.pos
    have hc : a.map (md k) = c := A.map
    have hl : a.length = c.length := by rw [← hc, List.length_map]
    have hi : i < c.length := by omega
    have get : ∀ n, (h : n < a.length) → c[n]? = some (md k a[n]) := fun n h => by
      rw [← hc, List.getElem?_map, List.getElem?_eq_getElem h]
      rfl
    have mono : ∀ n m, (hn : n < a.length) → (hm : m < a.length) → n ≤ m → a[n] ≤ a[m] := fun n m hn hm h => by
      rcases Nat.lt_or_eq_of_le h with h | h
      · exact List.pairwise_iff_getElem.mp A.mono n m hn hm h
      · subst h; exact Int.le_refl _
    have win : ∀ n m, (hn : n < a.length) → (hm : m < a.length) → a[m] ≤ a[n] + k := fun n m hn hm => A.win _ (List.getElem_mem hn) _ (List.getElem_mem hm)
    have hi' : i < a.length := by omega
    have hj' : j < a.length := by omega
    have e0 : md k a[i] = md k a[j] := by
      rw [get i hi'] at ei
      rw [get j hj'] at ej
      rw [Option.some.inj ei, Option.some.inj ej]
    have h1 : i + 1 < a.length := by omega
    have ev : md k a[i] = v := by rw [get i hi'] at ei; exact Option.some.inj ei
    rw [Nat.mod_eq_of_lt (by omega), get (i + 1) h1] at ni
    rcases md_eq hk e0 (mono i j hi' hj' (by omega)) (win i j hi' hj') with h | h
    · apply ni
      have u1 := mono i (i + 1) hi' h1 (by omega)
      have u2 := mono (i + 1) j h1 hj' (by omega)
      have : a[i + 1] = a[i] := by omega
      rw [this, ev]
    · have z : 0 < a.length := by omega
      have u1 := win 0 j z hj'
      have u2 := mono 0 i z hi' (by omega)
      have ea : a[0] = a[i] := by omega
      apply nj
      by_cases hlast : j + 1 < a.length
      · rw [Nat.mod_eq_of_lt (by omega), get (j + 1) hlast]
        have u3 := win 0 (j + 1) z hlast
        have u4 := mono j (j + 1) hj' hlast (by omega)
        have : a[j + 1] = a[j] := by omega
        rw [this, ← e0, ev]
      · have : j + 1 = c.length := by omega
        rw [this, Nat.mod_self, get 0 z, ea, ev]
  rcases Nat.lt_trichotomy i j with h | h | h
  · exact (key i j h hj ei ej ni nj).elim
  · exact h
  · exact (key j i h hi ej ei nj ni).elim
end WT
/-! ### rules of one's own: set(tuple), len(set of tuples), enumerate(tuple), tuple * int -/
namespace WT
open PySem PySem.Spec PyProof.Rows L2
section
variable {X : Cx}
/-- set(t), t a tuple of ints -/
theorem cr_setI (hc : X.calm = true) : CallR X (.type "set") (fun xs H Q => ∃ (p : Addr) (ns : List Int), xs = [V.ref p] ∧ SqT X.K H p (ns.map V.int) ∧ ns.length ≤ 1000 ∧
    ∀ (a : Addr) (c : Nat), H a = none → c ≤ ns.length → Q (.ref a) (upd H a (SetO X.w a (fun j => decide (j ∈ ns)) c))) := by
  rintro pins s σ H xs us Q J rel ⟨p, ns, rfl, hT, hl, q⟩
  rw [Vals.ref1 rel]
  obtain ⟨its, rv, tu, _⟩ := J.tuple hT
  refine call_set_tupI ns (J.ok.hd hc) (show s.heap.IsTuple p its.toArray from tu) (ints_of_vals rv) (by unfold scanBound; omega) fun h' tk c R few k => ?_
  exact ⟨.ref s.heap.objs.size, upd H s.heap.objs.size (SetO X.w s.heap.objs.size (fun j => decide (j ∈ ns)) c), J.laid (t' := tk) k (Nat.le_refl _) (setO_new R), rfl, q _ c (J.hok.fresh (Nat.le_refl _)) few⟩
/-- len(s), s a set of tuples of ints -/
theorem cr_lenSetT : CallR X (.builtin "len") (fun xs H Q => ∃ (a : Addr) (L : List (Addr × List Int)), xs = [V.ref a] ∧ H a = some (SetTO X.prog X.w a L) ∧
    ((L.map (·.2)).Nodup → L.length < 64 → Q (.int (L.length : Nat)) H)) := by
  rintro pins s σ H xs us Q J rel ⟨a, L, rfl, ha, q⟩
  rw [Vals.ref1 rel]
  obtain ⟨es, ep, t, ⟨o, at_, ex, dt⟩, rows, tab, nd, _, _, room, few⟩ := SetT0.ex (show SetT0 X.prog X.w s.heap a L from (J.hok a _ ha).1)
  have ze : es.size = L.length := by
    rw [← Array.length_toList, rows]
    exact List.length_map _
  have zp : t.place.size = L.length := by
    rw [tab.sz, List.length_map]
  have fit : t.fits es.size = true := by
    rw [SetTable.fits, SetTable.fill, tab.dm, zp, ze, beq_self_eq_true, Bool.true_and, decide_eq_true_eq]
    show L.length + 0 ≤ t.mask
    omega
  exact call_len_set at_ ex dt fit (by omega) ⟨.int (L.length : Nat), H, J.tok _, ⟨_, by rw [ze]⟩, q nd few⟩
end
end WT
/-! ### for i, p in enumerate(zip(l1, l2)): the zip's first tuple is held, so each next one is new -/
namespace WT
open PySem PySem.Spec PyProof.Rows L2
/-- a zip of two lists as it stands ahead of turn i; τ: the tuple that it has given out first -/
structure ZSt (h : Heap) (z TI TO i1 i2 l1 l2 : Addr) (i : Nat) (τ : Option Addr) : Prop where
  hTI : IsPair h TI (.ref i1) (.ref i2)
  hTO : ∃ x y, IsPair h TO x y
  h1 : h.IsListIter i1 l1 i
  h2 : h.IsListIter i2 l2 i
  hz : (τ = none ∧ IsZip h z TI TO .none) ∨ ∃ T f, τ = some T ∧ IsZipHeld h z TI TO T f
theorem ZSt.on {h h' : Heap} {z TI TO i1 i2 l1 l2 : Addr} {i : Nat} {τ : Option Addr} (S : ZSt h z TI TO i1 i2 l1 l2 i τ) (k : ∀ b ∈ [z, TI, TO, i1, i2], ∀ o, h.get? b = some o → h'.get? b = some o) : ZSt h' z TI TO i1 i2 l1 l2 i τ := by
  obtain ⟨a, ⟨x, y, b⟩, c, d, e⟩ := S
  refine ⟨k TI (by simp) _ a, ⟨x, y, k TO (by simp) _ b⟩, c.at fun o q => k i1 (by simp) o q, d.at fun o q => k i2 (by simp) o q, ?_⟩
  rcases e with ⟨e1, e2⟩ | ⟨T, f, e1, e2⟩
  · exact .inl ⟨e1, k z (by simp) _ e2⟩
  · exact .inr ⟨T, f, e1, k z (by simp) _ e2⟩
theorem ZSt.objs {h : Heap} {z TI TO i1 i2 l1 l2 : Addr} {i : Nat} {τ : Option Addr} (S : ZSt h z TI TO i1 i2 l1 l2 i τ) : ∀ b ∈ [z, TI, TO, i1, i2], ∃ o, h.get? b = some o ∧ ∀ v, o.data ≠ .cell v := by
  obtain ⟨a, ⟨x, y, b⟩, ⟨o1, c1, _, c2⟩, ⟨o2, d1, _, d2⟩, e⟩ := S
  intro q hq
  simp only [List.mem_cons, List.not_mem_nil, or_false] at hq
  rcases hq with rfl | rfl | rfl | rfl | rfl
  · rcases e with ⟨_, e⟩ | ⟨_, _, _, e⟩
    · exact ⟨_, e, fun v hv => by cases hv⟩
    · exact ⟨_, e, fun v hv => by cases hv⟩
  · exact ⟨_, a, fun v hv => by cases hv⟩
  · exact ⟨_, b, fun v hv => by cases hv⟩
  · exact ⟨_, c1, fun v hv => by rw [c2] at hv; cases hv⟩
  · exact ⟨_, d1, fun v hv => by rw [d2] at hv; cases hv⟩
section
variable {prog : Program} {w : World} {A : Around} {E : Value → Shared → Prop} {s : Shared}
theorem zip_draw {z TI TO i1 i2 l1 l2 : Addr} {i : Nat} {τ : Option Addr} {xs ys : Array Value} {x y : Value} {Q : Value → Shared → Prop} (D : ZipApart z TI TO i1 i2 l1 l2)
    (S : ZSt s.heap z TI TO i1 i2 l1 l2 i τ) (hτ : ∀ T, τ = some T → ∃ o, s.heap.get? T = some o) (hl1 : s.heap.IsList l1 xs) (hl2 : s.heap.IsList l2 ys) (hx : xs[i]? = some x) (hy : ys[i]? = some y)
    (hQ : ∀ h', ZSt h' z TI TO i1 i2 l1 l2 (i + 1) (some (τ.getD s.heap.objs.size)) → IsPair h' s.heap.objs.size x y → h'.objs.size = s.heap.objs.size + 1 →
      (∀ c o, c ∉ [z, TI, TO, i1, i2] → s.heap.get? c = some o → h'.get? c = some o) → Q (.ref s.heap.objs.size) { s with heap := h' }) :
    wpAny (model prog w) A (Builtin.SmallTypes.nextOf (.ref z)) Q E s := by
  obtain ⟨hTI, ⟨u, v, hTO⟩, h1, h2, hz⟩ := S
  have kTI : ∀ {h' : Heap}, (∀ c o, c ≠ z → c ≠ TO → c ≠ i1 → c ≠ i2 → s.heap.get? c = some o → h'.get? c = some o) → IsPair h' TI (.ref i1) (.ref i2) := fun k => k _ _ D.TIz D.TITO D.TIi1 D.TIi2 hTI
  have out : ∀ {c : Addr}, c ∉ [z, TI, TO, i1, i2] → c ≠ z ∧ c ≠ TO ∧ c ≠ i1 ∧ c ≠ i2 := fun hc => by
    simp only [List.mem_cons, List.not_mem_nil, or_false, not_or] at hc
    exact ⟨hc.1, hc.2.2.1, hc.2.2.2.1, hc.2.2.2.2⟩
  unfold Builtin.SmallTypes.nextOf
  rcases hz with ⟨e0, hz⟩ | ⟨T, f, e0, hz⟩
  · subst e0
    have ty : s.TypeIs (.ref z) "zip" := ⟨_, hz, rfl⟩
    refine wpAny_bind (wpAny_callSpecial?_slot ty F.slot_zip_next (wpAny_call_entry F.slot_zip_next ty F.entry_zip_next ?_ (F.args_zip_next_1 _)))
    refine zip_next_item D hz hTI hTO h1 h2 hl1 hl2 hx hy fun h' a1 a2 a3 a4 a5 a6 a7 => wpAny_pure (hQ h' ⟨kTI a7, ⟨x, y, a2⟩, a3, a4, .inr ⟨_, false, rfl, a1⟩⟩ a5 a6 fun c o hc q => ?_)
    obtain ⟨n1, n2, n3, n4⟩ := out hc
    exact a7 c o n1 n2 n3 n4 q
  · subst e0
    obtain ⟨oT, hT⟩ := hτ T rfl
    have ty : s.TypeIs (.ref z) "zip" := ⟨_, hz, rfl⟩
    refine wpAny_bind (wpAny_callSpecial?_slot ty F.slot_zip_next (wpAny_call_entry F.slot_zip_next ty F.entry_zip_next ?_ (F.args_zip_next_1 _)))
    refine zip_next_item_held D hz hT hTI h1 h2 hl1 hl2 hx hy fun h' a1 a3 a4 a5 a6 a7 => wpAny_pure (hQ h' ⟨kTI fun c o n1 _ n3 n4 q => a7 c o n1 n3 n4 q, ⟨u, v, a7 _ _ D.TOz D.TOi1 D.TOi2 hTO⟩, a3, a4, .inr ⟨_, true, rfl, a1⟩⟩ a5 a6 fun c o hc q => ?_)
    obtain ⟨n1, n2, n3, n4⟩ := out hc
    exact a7 c o n1 n3 n4 q
theorem zip_over {z TI TO i1 i2 l1 l2 : Addr} {i : Nat} {τ : Option Addr} {xs ys : Array Value} {Q : Value → Shared → Prop} (hh : A.handled = none) (D : ZipApart z TI TO i1 i2 l1 l2)
    (S : ZSt s.heap z TI TO i1 i2 l1 l2 i τ) (hτ : ∀ T, τ = some T → ∃ o, s.heap.get? T = some o) (hl1 : s.heap.IsList l1 xs) (hl2 : s.heap.IsList l2 ys) (hend : xs[i]? = none ∨ ys[i]? = none)
    (hE : ∀ h' e, (∀ c o, c ∉ [z, TI, TO, i1, i2] → s.heap.get? c = some o → h'.get? c = some o) → (∃ o, h'.get? e = some o ∧ o.cls = .type "StopIteration") → E (.ref e) { s with heap := h' }) :
    wpAny (model prog w) A (Builtin.SmallTypes.nextOf (.ref z)) Q E s := by
  obtain ⟨hTI, ⟨u, v, hTO⟩, h1, h2, hz⟩ := S
  have out : ∀ {c : Addr}, c ∉ [z, TI, TO, i1, i2] → c ≠ z ∧ c ≠ TO ∧ c ≠ i1 ∧ c ≠ i2 := fun hc => by
    simp only [List.mem_cons, List.not_mem_nil, or_false, not_or] at hc
    exact ⟨hc.1, hc.2.2.1, hc.2.2.2.1, hc.2.2.2.2⟩
  unfold Builtin.SmallTypes.nextOf
  rcases hz with ⟨_, hz⟩ | ⟨T, f, e0, hz⟩
  · have ty : s.TypeIs (.ref z) "zip" := ⟨_, hz, rfl⟩
    refine wpAny_bind (wpAny_callSpecial?_slot ty F.slot_zip_next (wpAny_call_entry F.slot_zip_next ty F.entry_zip_next ?_ (F.args_zip_next_1 _)))
    refine zip_next_end hh D hz hTI hTO h1 h2 hl1 hl2 hend fun h' e k he => hE h' e (fun c o hc q => ?_) he
    obtain ⟨n1, n2, n3, n4⟩ := out hc
    exact k c o n1 n2 n3 n4 q
  · obtain ⟨oT, hT⟩ := hτ T e0
    have ty : s.TypeIs (.ref z) "zip" := ⟨_, hz, rfl⟩
    refine wpAny_bind (wpAny_callSpecial?_slot ty F.slot_zip_next (wpAny_call_entry F.slot_zip_next ty F.entry_zip_next ?_ (F.args_zip_next_1 _)))
    refine zip_next_end_held hh D hz hT hTI h1 h2 hl1 hl2 hend fun h' e k he => hE h' e (fun c o hc q => ?_) he
    obtain ⟨n1, n2, n3, n4⟩ := out hc
    exact k c o n1 n3 n4 q
/-- enumerate's next over any inner draw R -/
theorem enum_draw {e it : Addr} {i : Nat} {old : Value} {R : Value → Heap → Nat → Prop} {Q : Value → Shared → Prop} (he : IsEnum s.heap e it i old)
    (hin : ∀ Q' : Value → Shared → Prop, (∀ x h tk, R x h tk → Q' x { s with heap := h, toks := tk }) → wpAny (model prog w) A (Builtin.SmallTypes.nextOf (.ref it)) Q' E s)
    (hR : ∀ x h tk, R x h tk → IsEnum h e it i old)
    (hQ : ∀ x h tk h', R x h tk → IsEnumOut h' e it ((i : Int) + 1) x h.objs.size → h'.get? h.objs.size = some { cls := .type "tuple", data := .seq #[.int i tk, x] } →
      (∀ b o, b ≠ e → h.get? b = some o → h'.get? b = some o) → Q (.ref h.objs.size) { s with heap := h', toks := tk + 1 }) :
    wpAny (model prog w) A (Builtin.«enumerate.__next__» ⟨[.ref e], []⟩) (fun fin s' => ∃ v, fin = .done (.ret v) ∧ Q v s') E s := by
  obtain ⟨hp, gs, dr, t0, os⟩ := s
  show wpAny _ _ (field (.ref e) 2 >>= _) _ _ _
  refine wpAny_bind (wpAny_field he rfl (x := .ref it) rfl (wpAny_bind (hin _ fun x h tk r => ?_)))
  have q0 : IsEnum h e it i old := hR x h tk r
  have el : e < h.objs.size := Heap.lt_size q0
  show wpAny _ _ (field (.ref e) 3 >>= _) _ _ ⟨h, gs, dr, tk, os⟩
  refine wpAny_bind (wpAny_field q0 rfl (x := rawInt i) rfl ?_)
  show wpAny _ _ (field (.ref e) 4 >>= _) _ _ ⟨h, gs, dr, tk, os⟩
  refine wpAny_bind (wpAny_field q0 rfl (x := .none) rfl ?_)
  show wpAny _ _ (mkInt i >>= _) _ _ ⟨h, gs, dr, tk, os⟩
  refine wpAny_bind (wpAny_mkInt ?_)
  show wpAny _ _ (setField (.ref e) 3 (rawInt ((i : Int) + 1)) >>= _) _ _ ⟨h, gs, dr, tk + 1, os⟩
  refine wpAny_bind (wpAny_setField_rec q0 (by simp) fun ha qa sa => ?_)
  have qa : IsEnum ha e it ((i : Int) + 1) old := qa
  show wpAny _ _ (setField (.ref e) 4 .none >>= _) _ _ ⟨ha, gs, dr, tk + 1, os⟩
  refine wpAny_bind (wpAny_setField_rec qa (by simp) fun hb qb sb => ?_)
  have qb : IsEnum hb e it ((i : Int) + 1) old := qb
  show wpAny _ _ (newTuple [.int i tk, x] >>= _) _ _ ⟨hb, gs, dr, tk + 1, os⟩
  refine wpAny_bind (wpAny_newTuple ?_)
  have zb : hb.objs.size = h.objs.size := by rw [(show Heap.SameBut e ha hb from sb).1, (show Heap.SameBut e h ha from sa).1]
  have kb : ∀ b o, b ≠ e → h.get? b = some o → hb.get? b = some o := fun b o n q => (show Heap.SameBut e ha hb from sb).extBut b o n ((show Heap.SameBut e h ha from sa).extBut b o n q)
  have qc : IsEnum (hb.push { cls := .type "tuple", data := .seq #[.int i tk, x] }) e it ((i : Int) + 1) old := Heap.get?_push_of_some _ qb
  have tc : (hb.push { cls := .type "tuple", data := .seq #[.int i tk, x] }).get? h.objs.size = some { cls := .type "tuple", data := .seq #[.int i tk, x] } := by
    rw [← zb]
    exact Heap.get?_push_size _ rfl
  have kc : ∀ b o, b ≠ e → h.get? b = some o → (hb.push { cls := .type "tuple", data := .seq #[.int i tk, x] }).get? b = some o := fun b o n q => Heap.get?_push_of_some _ (kb b o n q)
  rw [zb]
  generalize hb.push { cls := .type "tuple", data := .seq #[.int i tk, x] } = hc at qc tc kc
  show wpAny _ _ (Builtin.SmallTypes.ownedTupleIsFree (.ref e) >>= _) _ _ ⟨hc, gs, dr, tk + 1, os⟩
  unfold Builtin.SmallTypes.ownedTupleIsFree
  refine wpAny_bind (wpAny_bind (wpAny_field qc rfl (x := .none) rfl (wpAny_pure ?_)))
  simp only [if_true]
  refine wpAny_bind (wpAny_rule (wpAny_bind (wpAny_field qc rfl (x := old) rfl (wpAny_bind (wpAny_setField_rec qc (by simp) fun hd qd sd => ?_)))))
  have qd : IsEnum hd e it ((i : Int) + 1) x := qd
  show wpAny _ _ (Builtin.SmallTypes.ownedTupleHandOut (.ref e) (.ref h.objs.size) >>= _) _ _ ⟨hd, gs, dr, tk + 1, os⟩
  unfold Builtin.SmallTypes.ownedTupleHandOut
  refine wpAny_bind (wpAny_bind (wpAny_setField_rec qd (by simp) fun hf qf sf => ?_))
  have qf : IsEnumOut hf e it ((i : Int) + 1) x h.objs.size := qf
  refine wpAny_setField_rec qf (by simp) fun hg qg sg => ?_
  have qg : IsEnumOut hg e it ((i : Int) + 1) x h.objs.size := qg
  have kg : ∀ b o, b ≠ e → hc.get? b = some o → hg.get? b = some o := fun b o n q =>
    (show Heap.SameBut e hf hg from sg).extBut b o n ((show Heap.SameBut e hd hf from sf).extBut b o n ((show Heap.SameBut e hc hd from sd).extBut b o n q))
  exact wpAny_bind (wpAny_letGo (wpAny_pure ⟨_, rfl, hQ x h tk hg r qg (kg _ _ (Nat.ne_of_gt el) tc) fun b o n q => kg b o n (kc b o n q)⟩))
end
end WT
/-! ### enumerate(t), t a tuple: by enum_draw -/
namespace WT
open PySem PySem.Spec PyProof.Rows L2
/-- enumerate's new object over an iterator o that iter(v) makes -/
theorem enum_new {v : Value} {o : Obj} {Hd : Heap → Prop} (B : Begins v o Hd) :
    Meets (Builtin.«enumerate.__new__» ⟨[.type "enumerate", v], []⟩) fun _ R s => Hd s.heap ∧ R (.ok (.ret (.ref (s.heap.push o).objs.size)))
      { s with heap := (s.heap.push o).push { cls := .type "enumerate", data := .fields #[.none, .bool false, .ref s.heap.objs.size, rawInt 0, .none, .none] } } :=
  .of_wp fun prog w A R s hs => by
    obtain ⟨hp, gs, dr, t0, os⟩ := s
    obtain ⟨hd, hs⟩ := hs
    have isEnum := sub_enumerate
    have begin_ : ∀ {A' : Around} {E : Value → Shared → Prop} {Q : Value → Shared → Prop}, Q (.ref hp.objs.size) ⟨hp.push o, gs, dr, t0, os⟩ → wpAny (model prog w) A' (pyIter v) Q E ⟨hp, gs, dr, t0, os⟩ := fun {A' E Q} k => B.iter prog w A' E ⟨hp, gs, dr, t0, os⟩ Q hd k
    wp_walk using begin_
    refine wpAny_stack_any fun _ => wpAny_pure ?_
    split
    · rename_i cl _ _ _ _ _
      cases (cl == Value.type "enumerate") <;> (wp_walk using begin_; exact ⟨_, rfl, hs⟩)
    · (wp_walk using begin_; exact ⟨_, rfl, hs⟩)
/-- enumerate of the tuple at a, at e, over the iterator at it: ahead of turn i -/
structure EnT (h : Heap) (a e it : Addr) (i : Nat) : Prop where
  en : ∃ old, IsEnum h e it ((i : Nat) : Int) old
  ti : h.IsTupleIter it a i
theorem EnT.on {h h' : Heap} {a e it : Addr} {i : Nat} (S : EnT h a e it i) (k : ∀ b ∈ [e, it], ∀ o, h.get? b = some o → h'.get? b = some o) : EnT h' a e it i :=
  ⟨S.en.elim fun old q => ⟨old, k e (by simp) _ q⟩, S.ti.at fun o q => k it (by simp) o q⟩
theorem EnT.objs {h : Heap} {a e it : Addr} {i : Nat} (S : EnT h a e it i) : ∀ b ∈ [e, it], ∃ o, h.get? b = some o ∧ ∀ v, o.data ≠ .cell v := by
  intro b hb
  simp only [List.mem_cons, List.not_mem_nil, or_false] at hb
  rcases hb with rfl | rfl
  · exact S.en.elim fun _ q => ⟨_, q, fun v hv => by cases hv⟩
  · obtain ⟨o, q, _, d⟩ := S.ti
    exact ⟨o, q, fun v hv => by rw [d] at hv; cases hv⟩
/-- the tuple at a as it stands, each item in a new pair -/
def IteT (K : PySem.W.Frag) (a : Addr) : It where
  go i H := ∃ (xs : List V) (x : V), SqT K H a xs ∧ xs[i]? = some x
  yld i H v H' := ∃ T x, v = .ref T ∧ H T = none ∧ H' = upd H T (.tup [.int (i : Nat), x]) ∧ ∀ xs, SqT K H a xs → xs[i]? = some x
  stop i H := ∃ xs : List V, SqT K H a xs ∧ xs.length ≤ i
theorem turn_enumT {P : Program} {w : World} {K : PySem.W.Frag} {elts : List Expr} {kk : Nat} {tpos : Pos} {a e it : Addr} (ne : e ≠ it) : Turn P w K (.Tuple elts kk tpos) (IteT K a) [e, it] e fun i h => EnT h a e it i where
  mem := List.mem_cons_self ..
  obj := fun i h S => S.objs
  keep := fun i h h' S k => S.on k
  self := fun A i s Q E S k => S.en.elim fun _ q => wpAny_pyIter_enum q k
  item := by
    rintro X rfl rfl rfl calm i pins s σ H E J fp S ⟨xs, x, hT, hx⟩
    obtain ⟨old, en⟩ := S.en
    obtain ⟨us, rel, tu, _⟩ := J.tuple hT
    obtain ⟨ux, hux, rux⟩ := rel.get hx
    have ty : s.TypeIs (.ref e) "enumerate" := ⟨_, en, rfl⟩
    have small : ∀ b ∈ [e, it], b < s.heap.objs.size := fun b hb => (S.objs b hb).elim fun _ q => Heap.lt_size q.1
    unfold pyNext
    refine wpAny_bind (wpAny_attempt (wpAny_callSpecial?_slot ty F.slot_enumerate_next (wpAny_call_entry F.slot_enumerate_next ty F.entry_enumerate_next ?_ (F.args_enumerate_next_1 _))))
    refine enum_draw (A := X.A.in1) (R := fun v h tk => v = ux ∧ tk = s.toks ∧ h.IsTupleIter it a (i + 1) ∧ Heap.SameBut it s.heap h) en
      (fun Q' k => wpAny_nextOf_tuple_item S.ti tu (x := ux) (by simpa using hux) fun h g1 g2 => k _ h s.toks ⟨rfl, rfl, g1, g2⟩)
      (fun v h tk r => (r.2.2.2.2 e ne).trans en) fun v h tk h5 r en5 t5 k5 => ?_
    obtain ⟨rfl, rfl, ti, sb⟩ := r
    have z : h.objs.size = s.heap.objs.size := sb.1
    rw [z] at en5 t5 ⊢
    refine wpAny_pure ⟨_, rfl, wpAny_letOwnedTupleGo_enum (s := { s with heap := h5, toks := s.toks + 1 }) en5 fun h6 en6 sb6 => ?_⟩
    have t6 : h6.get? s.heap.objs.size = some { cls := .type "tuple", data := .seq #[.int i s.toks, v] } := (sb6.2 _ (Nat.ne_of_gt (small e (by simp)))).trans t5
    have laid : ObjOk X.prog X.w (upd H s.heap.objs.size (.tup [.int (i : Nat), x])) h6 s.heap.objs.size (.tup [.int (i : Nat), x]) := ⟨by show 2 ≤ sizeLine; decide, [.int i s.toks, v], .cons ⟨_, rfl⟩ (.cons rux .nil), _, t6, rfl, _, rfl⟩
    have k6 : ∀ b o, b ∉ [e, it] → s.heap.get? b = some o → h6.get? b = some o := fun b o hb q => by
      simp only [List.mem_cons, List.not_mem_nil, or_false, not_or] at hb
      exact (sb6.2 b hb.1).trans (k5 b o hb.1 ((sb.2 b hb.2).trans q))
    have J6 := J.turnedNew (t' := s.toks + 1) k6 fp (Nat.le_refl _) laid
    refine ⟨.ref s.heap.objs.size, _, J6, rfl, ⟨_, x, rfl, J.hok.fresh (Nat.le_refl _), rfl, fun ys hy => (J.tuple_inj hy hT).symm ▸ hx⟩, ⟨⟨v, ?_⟩, ti.at fun o q => (sb6.2 it (Ne.symm ne)).trans (k5 it o (Ne.symm ne) q)⟩, fun b hb => ?_⟩
    · rw [Int.natCast_add]
      exact en6
    · rw [upd_ne (Nat.ne_of_lt (small b hb))]
      exact (fp b hb).1
  done := by
    rintro X rfl rfl rfl calm i pins s σ H E J fp S ⟨xs, hT, hl⟩
    obtain ⟨old, en⟩ := S.en
    obtain ⟨us, rel, tu, _⟩ := J.tuple hT
    have ty : s.TypeIs (.ref e) "enumerate" := ⟨_, en, rfl⟩
    have over : us.toArray[i]? = none := by
      have := rel.length
      simp
      omega
    unfold pyNext
    refine wpAny_bind (wpAny_attempt (wpAny_callSpecial?_slot ty F.slot_enumerate_next (wpAny_call_entry F.slot_enumerate_next ty F.entry_enumerate_next ?_ (F.args_enumerate_next_1 _))))
    show wpAny _ X.A.in1 (field (.ref e) 2 >>= _) _ _ s
    refine wpAny_bind (wpAny_field en rfl (x := .ref it) rfl (wpAny_bind (wpAny_nextOf_tuple_end (J.ok.hd calm) S.ti tu over fun h x k ⟨o, g1, g2⟩ => ?_)))
    refine wpAny_bind (wpAny_isInstance (T := "StopIteration") (b := true) ⟨o, g1, g2⟩ isSubtype_stop (wpAny_pure ⟨rfl, ?_⟩))
    exact J.turnedL (t' := s.toks) (ch := [it]) (fun b ob hb q => k b ob (fun r => hb (List.mem_singleton.mpr r)) q) fun b hb => fp b (List.mem_cons_of_mem _ hb)
def iEnumT (K : PySem.W.Frag) (ta : TA) : TI := fun σ H R => ta σ H fun vs H1 => ∃ a xs, vs = [.ref a] ∧ SqT K H1 a xs ∧ R (IteT K a) H1
theorem pi_enumT {X : Cx} {e : Expr} {ta : TA} {p pos tpos : Pos} {elts : List Expr} {kk : Nat} (hg : Gl X "enumerate") (hm : X.mg "enumerate" = none) (ha : PA X [e] ta) (hs : starEach [e] X.env = [(false, eval e X.env)] := by rfl) :
    PI X (.Tuple elts kk tpos) (.Call (.Name "enumerate" p) [e] [] pos) (iEnumT X.K ta) where
  run pins s σ H R I h := by
    refine Call_ (ld_blt I hg hm boot_enumerate (PyProof.Rows.callWith_type1 (thn (ha.run pos pins s σ H _ I h) fun us s1 r => ?_) hs rfl))
    obtain ⟨vs, H1, J, rel, a, xs, rfl, hT, q⟩ := r
    rw [Vals.ref1 rel]
    obtain ⟨its, _, tu, _⟩ := J.tuple hT
    have low : a < s1.heap.objs.size := tu.lt
    have zo : (s1.heap.push { cls := .type "tuple_iterator", data := .fields #[.ref a, .int 0 0] }).objs.size = s1.heap.objs.size + 1 := Heap.size_push ..
    refine callType_new F.called_enumerate (by decide) (F.typeCall_enumerate_1 _) (F.newCall_enumerate_1 _) (fun _ => F.args_object_init_2 _ _) F.entry_enumerate_new (enum_new (begins_tuple a its.toArray)) ⟨tu, ?_⟩
    show _ ∧ _
    have en : IsEnum ((s1.heap.push { cls := .type "tuple_iterator", data := .fields #[.ref a, .int 0 0] }).push { cls := .type "enumerate", data := .fields #[.none, .bool false, .ref s1.heap.objs.size, rawInt 0, .none, .none] }) (s1.heap.objs.size + 1) s1.heap.objs.size 0 .none := by
      rw [← zo]
      exact Heap.get?_push_size _ rfl
    rw [zo]
    refine ⟨⟨_, en, rfl⟩, wpAny_pyIter_enum en ?_⟩
    have kept : ∀ b u, s1.heap.get? b = some u → ((s1.heap.push { cls := .type "tuple_iterator", data := .fields #[.ref a, .int 0 0] }).push { cls := .type "enumerate", data := .fields #[.none, .bool false, .ref s1.heap.objs.size, rawInt 0, .none, .none] }).get? b = some u :=
      fun b u g => Heap.get?_push_of_some _ (Heap.get?_push_of_some _ g)
    refine ⟨s1.heap.objs.size + 1, [s1.heap.objs.size + 1, s1.heap.objs.size], _, IteT X.K a, H1, rfl, J.kept (t' := s1.toks) kept, turn_enumT (Nat.succ_ne_self _), ⟨⟨_, en⟩, _, Heap.get?_push_of_some _ (Heap.get?_push_size _ rfl), rfl, rfl⟩, fun b hb => ?_, q⟩
    have up : s1.heap.objs.size ≤ b := by
      simp only [List.mem_cons, List.not_mem_nil, or_false] at hb
      rcases hb with rfl | rfl
      · exact Nat.le_succ _
      · exact Nat.le_refl _
    exact J.fpOk up (J.hok.fresh up)
theorem walk_enumT {K : PySem.W.Frag} {a : Addr} {xs : List V} : Walk (IteT K a) xs.length (fun H => SqT K H a xs) (YPair (fun i => some (.int (i : Nat))) (fun i => xs[i]?)) where
  goes i H hi q := ⟨xs, xs[i], q, List.getElem?_eq_getElem hi⟩
  stops H q := ⟨xs, q, Nat.le_refl _⟩
  yields i H v H' _ q y := y.elim fun T ⟨x, g1, g2, g3, g4⟩ => ⟨T, .int (i : Nat), x, g1, g2, g3, rfl, g4 xs q⟩
end WT
/-! ### tuple * int, one time too -/
namespace WT
open PySem PySem.Spec PyProof.Rows L2
theorem tuple_mul1 (l : Addr) (items : Array Value) (n : Nat) (dd : Option Addr) (sl : Array (Option Value)) (u : Tok) :
    Meets (Builtin.«tuple.__mul__» ⟨[.ref l, .int 1 u], []⟩) (fun _ R s => s.heap.get? l = some { cls := .type "tuple", dict := dd, data := .seq items n, slots := sl } ∧
      R (.ok (.ret (Value.ref l))) s) :=
  .of_wp fun prog w A R s h => by
    obtain ⟨hp, g, d, tk, os⟩ := s
    obtain ⟨hl, h⟩ := h
    have f1 := AutoSeq1.idx_int
    have c1 : (items.isEmpty || (1 : Int) == 1) = true := by rw [show ((1 : Int) == 1) = true from rfl, Bool.or_true]
    wp_walk using wpAny_loadPart' hl
    repeat (first
      | (refine wpAny_ite_true (decide_eq_true (by rw [c1])) ?_; wp_walk using wpAny_loadPart' hl)
      | (refine wpAny_ite_false (decide_eq_false (by decide)) ?_; wp_walk using wpAny_loadPart' hl))
    exact ⟨_, rfl, h⟩
def rRepA (K : PySem.W.Frag) : R2 := fun x y H Q => ∃ l k xs, x = .ref l ∧ y = .int k ∧ SqT K H l xs ∧ xs ≠ [] ∧ 1 ≤ k ∧ k ≤ 1000 ∧ xs.length ≤ 1000 ∧ (k = 1 → Q (.ref l) H) ∧ (2 ≤ k → ∀ p, H p = none → Q (.ref p) (upd H p (.tup (List.replicate k.toNat xs).flatten)))
section
variable {X : Cx}
theorem op_repA : OpR X (binaryOp .Mult) (rRepA X.K) := by
  intro pins s σ H x y v u Q I rx ry h
  obtain ⟨l, k, xs, rfl, rfl, hT, hne, h1, h2, hz, q1, q2⟩ := h
  by_cases hk : k = 1
  · subst hk
    have q := q1 rfl
    cases rx
    obtain ⟨t, rfl⟩ := ry
    obtain ⟨its, r, ⟨⟨cls, dd, data, sl⟩, ho, hc, n, hd⟩, hs⟩ := I.tuple hT
    simp only at hc hd
    subst hc hd
    refine wpAny_binaryOp_repeat_ref (T := "tuple") (U := "int") (by decide) ⟨_, ho, rfl⟩ (fun s' => typeIs_int s' 1 t) noFill_tuple_mul F.fills_int_mul F.slot_int_rmul repeat_tuple F.slot_int_index.lookup
      (call_meets F.slot_int_rmul (typeIs_int s 1 t) F.entry_int_rmul (F.args_int_rmul_2 _ _) (int_rmul_tuple 1 t l its.toArray n dd sl)
        ⟨ho, rfl, ⟨_, ho, rfl⟩, call_meets F.slot_tuple_mul ⟨_, ho, rfl⟩ F.entry_tuple_mul (F.args_tuple_mul_2 _ _) (tuple_mul1 l its.toArray n dd sl t) ⟨ho, ?_⟩⟩)
    exact ⟨.ref l, H, I, rfl, q⟩
  · exact op_repT pins s σ H _ _ v u Q I rx ry ⟨l, k, xs, rfl, rfl, hT, hne, by omega, h2, hz, q2 (by omega)⟩
end
end WT
/-! ### tuples by what they hold; rules with the written part named -/
namespace WT
open PySem PySem.Spec PyProof.Rows L2
theorem drop_take_all {α : Type} (xs : List α) : (xs.drop 0).take (xs.length - 0) = xs := by rw [List.drop_zero, Nat.sub_zero, List.take_length]
def rSlS (K : PySem.W.Frag) : V → Option Int → Option Int → Hp → VK → Prop := fun x lo hi H Q => ∃ a xs, x = .ref a ∧ SqT K H a xs ∧ ∀ (p : Addr) (H' : Hp), Same H H' → SqT K H' p (cutV xs lo hi) → Q (.ref p) H'
def rCatS (K : PySem.W.Frag) : R2 := fun x y H Q => ∃ a b xs ys, x = .ref a ∧ y = .ref b ∧ SqT K H a xs ∧ SqT K H b ys ∧ xs.length + ys.length ≤ sizeLine ∧ ∀ (p : Addr) (H' : Hp), Same H H' → SqT K H' p (xs ++ ys) → Q (.ref p) H'
def rRepS (K : PySem.W.Frag) : R2 := fun x y H Q => ∃ l k xs, x = .ref l ∧ y = .int k ∧ SqT K H l xs ∧ xs ≠ [] ∧ 1 ≤ k ∧ k ≤ 1000 ∧ xs.length ≤ 1000 ∧ ∀ (p : Addr) (H' : Hp), Same H H' → SqT K H' p (List.replicate k.toNat xs).flatten → Q (.ref p) H'
section
variable {X : Cx}
theorem sl_tupS : SlR X (rSlS X.K) := by
  intro pins s σ H x v vl vu lo hi sl Q I rx hs pl pu q
  obtain ⟨a, xs, rfl, hT, q⟩ := q
  refine sl_tupA pins s σ H _ v vl vu lo hi sl Q I rx hs pl pu ⟨a, xs, rfl, hT, fun e => q a H (Same.refl H) ?_, fun _ p np => q p _ (same_upd np) (SqT.of upd_same)⟩
  have e2 : cutV xs lo hi = xs := by
    unfold cutV
    rw [e.1, e.2, drop_take_all]
  rw [e2]
  exact hT
theorem op_catS : OpR X (binaryOp .Add) (rCatS X.K) := by
  intro pins s σ H x y v u Q I rx ry h
  obtain ⟨a, b, xs, ys, rfl, rfl, ha, hb, hl, q⟩ := h
  refine op_catA pins s σ H _ _ v u Q I rx ry ⟨a, b, xs, ys, rfl, rfl, ha, hb, hl, fun e => q b H (Same.refl H) ?_, fun _ e => q a H (Same.refl H) ?_, fun _ _ p np => q p _ (same_upd np) (SqT.of upd_same)⟩
  · rw [e, List.nil_append]
    exact hb
  · rw [e, List.append_nil]
    exact ha
theorem op_repS : OpR X (binaryOp .Mult) (rRepS X.K) := by
  intro pins s σ H x y v u Q I rx ry h
  obtain ⟨l, k, xs, rfl, rfl, hT, hne, h1, h2, hz, q⟩ := h
  refine op_repA pins s σ H _ _ v u Q I rx ry ⟨l, k, xs, rfl, rfl, hT, hne, h1, h2, hz, fun e => q l H (Same.refl H) ?_, fun _ p np => q p _ (same_upd np) (SqT.of upd_same)⟩
  subst e
  show SqT X.K H l (List.replicate 1 xs).flatten
  rw [List.replicate_one, List.flatten_singleton]
  exact hT
end
end WT
/-! the rules with the written part named: within a comprehension's block its reading may not lean on the block -/
namespace WT
open PySem PySem.Spec PyProof.Rows L2
section
variable {X : Cx} (K : PySem.W.Frag) (h : X.K = K)
include h
theorem ix_listK : IxR X (rIxL K) := by subst h; exact ix_list
theorem ix_tupK : IxR X (rIxT K) := by subst h; exact ix_tup
theorem op_inK : OpR X (compareOp .In) (rIn K false) := by subst h; exact op_in_seq
theorem op_notInK : OpR X (compareOp .NotIn) (rIn K true) := by subst h; exact op_notIn_seq
theorem op_eqDK (hu : X.A.units + 64 < cLine) : OpR X (compareOp .Eq) (rEqD K) := by subst h; exact op_eqD hu
theorem op_neDK (hu : X.A.units + 64 < cLine) : OpR X (compareOp .NotEq) (rNeD K) := by subst h; exact op_neD hu
theorem sl_tupK : SlR X (rSlS K) := by subst h; exact sl_tupS
theorem op_catK : OpR X (binaryOp .Add) (rCatS K) := by subst h; exact op_catS
theorem op_repK : OpR X (binaryOp .Mult) (rRepS K) := by subst h; exact op_repS
theorem len_seqK : CallR X (.builtin "len") (fun xs H Q => ∃ p ys, xs = [.ref p] ∧ (SqL K H p ys ∨ SqT K H p ys) ∧ Q (.int ys.length) H) := by subst h; exact call_len_seq
theorem tuple_ofK : CallR X (.type "tuple") (fun xs H Q => ∃ p ys, xs = [.ref p] ∧ ((SqL K H p ys ∧ ∀ l, H l = none → Q (.ref l) (upd H l (.tup ys))) ∨ (SqT K H p ys ∧ Q (.ref p) H))) := by subst h; exact call_tuple_of
theorem list_ofK : CallR X (.type "list") (fun xs H Q => ∃ p ys, xs = [.ref p] ∧ (SqL K H p ys ∨ SqT K H p ys) ∧ ∀ l, H l = none → Q (.ref l) (upd H l (.lst ys))) := by subst h; exact call_list_of
theorem allK (hc : X.calm = true) : CallR X (.builtin "all") (rAll K) := by subst h; exact cr_all hc
end
end WT
/-! ### wheels: integers, rows, turns -/
namespace WT
open PySem PySem.Spec PyProof.Rows L2
/-- ints, turns as values -/
def Ls (L : List Nat) : List V := L.map fun n : Nat => V.int (n : Int)
def Trn.s : Trn → Str
  | .cp => "C+"
  | .cm => "C-"
  | .rp => "R+"
  | .rm => "R-"
def Ts (s : List Trn) : List V := s.map fun t => V.str t.s
def Tup2 (K : PySem.W.Frag) (H : Hp) (v : V) (p : Nat × Nat) : Prop := ∃ a, v = .ref a ∧ SqT K H a [.int (p.1 : Int), .int (p.2 : Int)]
theorem s_cp (t : Trn) : decide (V.str t.s = V.str "C+") = decide (t = .cp) := by cases t <;> decide +kernel
theorem s_cm (t : Trn) : decide (V.str t.s = V.str "C-") = decide (t = .cm) := by cases t <;> decide +kernel
theorem s_rp (t : Trn) : decide (V.str t.s = V.str "R+") = decide (t = .rp) := by cases t <;> decide +kernel
theorem s_rm (t : Trn) : decide (V.str t.s = V.str "R-") = decide (t = .rm) := by cases t <;> decide +kernel
theorem iteB {c : Bool} {A B : Prop} (h1 : c = true → A) (h2 : c = false → B) : if c = true then A else B := by
  cases c
  · exact iteF (h2 rfl)
  · exact iteT (h1 rfl)
theorem iteC {c : Bool} {A B : Prop} (e : c = true) (h : A) : if c = true then A else B := by rw [if_pos e]; exact h
theorem iteN {c : Bool} {A B : Prop} (e : c = false) (h : B) : if c = true then A else B := by rw [e]; exact iteF h
theorem len_Ls (L : List Nat) : (Ls L).length = L.length := by unfold Ls; exact List.length_map _
theorem get_Ls {L : List Nat} {r : Nat} (h : r < L.length) : (Ls L)[r]? = some (V.int (at0 L r : Int)) := by
  unfold Ls at0
  rw [List.getElem?_map, List.getD_eq_getElem?_getD, List.getElem?_eq_getElem h]
  rfl
theorem atI_Ls {L : List Nat} {r : Nat} (h : r < L.length) : atI (Ls L) (r : Int) = some (V.int (at0 L r : Int)) := atI_nat (get_Ls h)
section
variable {P : Program} {w : World} {K : PySem.W.Frag} {mg : Str → Option Value} {base : Heap} {f : Addr} {fd : FuncData}
def spIsInt : Sp := fun vs H Q _ => ∃ v lo hi : Int, vs = [.int v, .int lo, .int hi] ∧ Q (.bl (decide (lo ≤ v) && decide (v ≤ hi))) H
theorem ok_is_integer (G : Gb K mg) (F : Std K mg "is_integer" s_is_integer [] f fd) : Def P w K mg base "is_integer" 1 pr_is_integer [] spIsInt := by
  refine Def.of F sc_is_integer (fun _ _ _ _ _ _ us hl => match us, hl with | [_, _, _], _ => rfl) (fun vs H Q E h => ?_) (fun cdv A outer s H vs Q E hr h => ?_)
  · obtain ⟨v, lo, hi, rfl, _⟩ := h
    rfl
  · obtain ⟨v, lo, hi, rfl, q⟩ := h
    refine ⟨_, (pss_one (ps_ret (pe_and (pe_callB call_isi (by rfl) G.isinstance_ (by decide +kernel) (pa_cons (pv 0) (pa_cons (pe_bltn (v := .ty "int") (u := .type "int") (by rfl) G.int_ (by decide +kernel) rfl) pa_nil))) (pe_and (pe_not (pe_callB call_isi (by rfl) G.isinstance_ (by decide +kernel) (pa_cons (pv 0) (pa_cons (pe_bltn (v := .ty "bool") (u := .type "bool") (by rfl) G.bool_ (by decide +kernel) rfl) pa_nil)))) (pe_one (pe_chain op_le op_le (pv 1) (pv 0) (pv 2))))))), ?_⟩
    refine ⟨_, rfl, .int v, .ty "int", .type "int", .type "int", true, rfl, .ty _, .base (.int _), kit_ty (by decide +kernel), true, rfl, iteT ?_⟩
    refine ⟨_, rfl, .int v, .ty "bool", .type "int", .type "bool", false, rfl, .ty _, .base (.int _), kit_ty (by decide +kernel), false, rfl, true, rfl, iteT ?_⟩
    refine ⟨_, rfl, _, rfl, lo, v, rfl, rfl, _, rfl, iteB (fun e => ?_) (fun e => ?_)⟩
    · refine ⟨_, rfl, v, hi, rfl, rfl, ?_⟩
      rw [e, Bool.true_and] at q
      exact q
    · rw [e, Bool.false_and] at q
      exact q
def spNextRow (K : PySem.W.Frag) : Sp := fun vs H Q _ => ∃ (a : Addr) (L : List Nat) (r : Nat) (t : Trn), vs = [.ref a, .int (r : Int), .str t.s] ∧ SqT K H a (Ls L) ∧ r < L.length ∧ Q (.int (nxR L.length r t : Int)) H
theorem ok_next_row (G : Gb K mg) (F : Std K mg "next_row" s_next_row [] f fd) : Def P w K mg base "next_row" 1 pr_next_row [] (spNextRow K) := by
  refine Def.of F sc_next_row (fun _ _ _ _ _ _ us hl => match us, hl with | [_, _, _], _ => rfl) (fun vs H Q E h => ?_) (fun cdv A outer s H vs Q E hr h => ?_)
  · obtain ⟨a, L, r, t, rfl, _⟩ := h
    rfl
  · obtain ⟨a, L, r, t, rfl, hT, hlt, q⟩ := h
    refine ⟨_, (pss_cons (ps_if (pt_cmpR op_eq (pv 2) pe_str (nomark _)) (pss_one (ps_ret (pe_op op_mod (pe_op op_add (pv 1) pe_int) (pe_callB (len_seqK K rfl) (by rfl) G.len_ (by decide +kernel) (pa_cons (pv 0) pa_nil))))) pss_nil)
      (pss_one (ps_ret (pe_ifExp (pt_cmpR op_eq (pv 2) pe_str (nomark _)) (pe_op op_mod (pe_op op_sub (pv 1) pe_int) (pe_callB (len_seqK K rfl) (by rfl) G.len_ (by decide +kernel) (pa_cons (pv 0) pa_nil))) (pv 1))))), ?_⟩
    have hl : (0 : Int) < ((Ls L).length : Int) := by rw [len_Ls]; omega
    refine ⟨_, rfl, rfl, _, rfl, iteB (fun e => ?_) (fun e => ?_)⟩
    · rw [s_rp] at e
      have e := of_decide_eq_true e
      subst e
      refine ⟨_, rfl, _, _, rfl, rfl, _, rfl, a, _, rfl, .inr hT, _, _, rfl, rfl, hl, ?_⟩
      have e2 : ((r : Int) + 1) % ((Ls L).length : Int) = (nxR L.length r .rp : Int) := by
        rw [len_Ls]
        show ((r : Int) + 1) % (L.length : Int) = (((r + 1) % L.length : Nat) : Int)
        rw [Int.natCast_emod, Int.natCast_add]
        rfl
      show Q (V.int (((r : Int) + 1) % ((Ls L).length : Int))) H
      rw [e2]
      exact q
    · rw [s_rp] at e
      have e := of_decide_eq_false e
      refine ⟨_, rfl, rfl, _, rfl, iteB (fun e2 => ?_) (fun e2 => ?_)⟩
      · rw [s_rm] at e2
        have e2 := of_decide_eq_true e2
        subst e2
        refine ⟨_, rfl, _, _, rfl, rfl, _, rfl, a, _, rfl, .inr hT, _, _, rfl, rfl, hl, ?_⟩
        have e3 : ((r : Int) - 1) % ((Ls L).length : Int) = (nxR L.length r .rm : Int) := by
          rw [len_Ls]
          show ((r : Int) - 1) % (L.length : Int) = (((r + L.length - 1) % L.length : Nat) : Int)
          rw [Int.natCast_emod, show ((r + L.length - 1 : Nat) : Int) = (r : Int) - 1 + (L.length : Int) by omega, Int.add_emod_right]
        show Q (V.int (((r : Int) - 1) % ((Ls L).length : Int))) H
        rw [e3]
        exact q
      · rw [s_rm] at e2
        have e2 := of_decide_eq_false e2
        refine ⟨_, rfl, ?_⟩
        have e3 : nxR L.length r t = r := by
          cases t
          · rfl
          · rfl
          · exact absurd rfl e
          · exact absurd rfl e2
        rw [e3] at q
        exact q
end
end WT
/-! ### wheels: turns, scripts, lengths -/
namespace WT
open PySem PySem.Spec PyProof.Rows L2
theorem _root_.L2.Same.updN {H H' : Hp} {D : Addr} {o : HO} (s : Same H H') (n : H D = none) : Same H (upd H' D o) := fun b x e => by
  rw [upd_ne (ne_of_none e n)]
  exact s b x e
theorem ty_tup {K : PySem.W.Frag} {H : Hp} {a : Addr} {xs : List V} (h : SqT K H a xs) : TyX K H (.ref a) (.type "tuple") := by
  rcases h with (h | ⟨o, h⟩) | ⟨o, its, n, h, c, _⟩
  · exact .base (.tup h)
  · exact .fTuple h
  · exact .kTuple h c
theorem yesT {σ : L2.St} {H : Hp} {A B : Hp → Prop} (h : A H) : tYes σ H fun b H3 => if b = true then A H3 else B H3 := h
theorem map_rep (b : Bool) (i : Nat) : (List.replicate i b).map V.bl ++ [V.bl b] = (List.replicate (i + 1) b).map V.bl := by
  rw [List.replicate_succ', List.map_append]
  rfl
theorem all_rep (i : Nat) : (List.replicate i true).all id = true := by
  rw [List.all_eq_true]
  intro x hx
  rw [(List.mem_replicate.mp hx).2]
  rfl
section
variable {P : Program} {w : World} {K : PySem.W.Frag} {mg : Str → Option Value} {base : Heap} {f : Addr} {fd : FuncData}
def spAfterTurn (K : PySem.W.Frag) : Sp := fun vs H Q _ => ∃ (a b : Addr) (L : List Nat) (p : Nat × Nat) (t : Trn), vs = [.ref a, .ref b, .str t.s] ∧ SqT K H a (Ls L) ∧ SqT K H b [.int (p.1 : Int), .int (p.2 : Int)] ∧
  Lens L ∧ Fits L p ∧ ∀ q H', Same H H' → H' q = some (.tup [.int ((step L p t).1 : Int), .int ((step L p t).2 : Int)]) → Q (.ref q) H'
theorem ok_after_turn (G : Gb K mg) (F : Std K mg "after_turn" s_after_turn [] f fd) (D_next_row : Def P w K mg base "next_row" 1 pr_next_row [] (spNextRow K)) : Def P w K mg base "after_turn" 2 pr_after_turn [] (spAfterTurn K) := by
  refine Def.of F sc_after_turn (fun _ _ _ _ _ _ us hl => match us, hl with | [_, _, _], _ => rfl) (fun vs H Q E h => ?_) (fun cdv A outer s H vs Q E hr h => ?_)
  · obtain ⟨a, b, L, p, t, rfl, _⟩ := h
    rfl
  · obtain ⟨a, b, L, ⟨r, c⟩, t, rfl, hT, hp, l, hf, q⟩ := h
    obtain ⟨h1, h2⟩ := hf
    have h1 : r < L.length := h1
    have h2 : c < at0 L r := h2
    have lp := l.at_pos h1
    refine ⟨_, (pss_cons (ps_asg (pv 1) (pg_tup rfl (pgs_cons (pg_name (i := 3) sc_after_turn.nd rfl (Or.inl rfl)) (pgs_cons (pg_name (i := 4) sc_after_turn.nd rfl (Or.inl rfl)) pgs_nil))))
      (pss_cons (ps_if (pt_cmpR op_eq (pv 2) pe_str (nomark _)) (pss_one (ps_ret (pe_tup (pa_cons (pv 3) (pa_cons (pe_op op_mod (pe_op op_add (pv 4) pe_int) (pe_ix (ix_tupK K rfl) (pv 0) (pv 3) (fun _ _ => rfl))) pa_nil))))) pss_nil)
      (pss_cons (ps_if (pt_cmpR op_eq (pv 2) pe_str (nomark _)) (pss_one (ps_ret (pe_tup (pa_cons (pv 3) (pa_cons (pe_op op_mod (pe_op op_sub (pv 4) pe_int) (pe_ix (ix_tupK K rfl) (pv 0) (pv 3) (fun _ _ => rfl))) pa_nil))))) pss_nil)
      (pss_cons (ps_set (i := 5) sc_after_turn.nd rfl (Or.inl rfl) (pe_callD D_next_row (hr.mono (by decide)) (by rfl) (pa_cons (pv 0) (pa_cons (pv 3) (pa_cons (pv 2) pa_nil)))))
      (pss_one (ps_ret (pe_tup (pa_cons (pv 5) (pa_cons (pe_callB (call_min2 rfl) (by rfl) G.min_ (by decide +kernel) (pa_cons (pv 4) (pa_cons (pe_op op_sub (pe_ix (ix_tupK K rfl) (pv 0) (pv 5) (fun _ _ => rfl)) pe_int) pa_nil))) pa_nil))))))))), ?_⟩
    refine ⟨_, rfl, b, _, rfl, hp, rfl, _, _, rfl, _, _, rfl, rfl, ?_⟩
    refine ⟨_, rfl, rfl, _, rfl, iteB (fun e => ?_) (fun e => ?_)⟩
    · rw [s_cp] at e
      have e := of_decide_eq_true e
      subst e
      refine ⟨_, rfl, _, rfl, _, _, rfl, rfl, _, rfl, _, rfl, a, _, _, _, rfl, rfl, hT, atI_Ls h1, _, _, rfl, rfl, ?_, ?_⟩
      · show (0 : Int) < (at0 L r : Int); omega
      · refine ⟨by show 2 ≤ sizeLine; decide, fun p hp => ?_⟩
        have e2 : ((c : Int) + 1) % (at0 L r : Int) = ((step L (r, c) .cp).2 : Int) := by
          show ((c : Int) + 1) % (at0 L r : Int) = (((c + 1) % at0 L r : Nat) : Int)
          rw [Int.natCast_emod, Int.natCast_add]
          rfl
        exact q p _ (same_upd hp) (by rw [upd_same, ← e2]; rfl)
    · rw [s_cp] at e
      have e := of_decide_eq_false e
      refine ⟨_, rfl, rfl, _, rfl, iteB (fun e1 => ?_) (fun e1 => ?_)⟩
      · rw [s_cm] at e1
        have e1 := of_decide_eq_true e1
        subst e1
        refine ⟨_, rfl, _, rfl, _, _, rfl, rfl, _, rfl, _, rfl, a, _, _, _, rfl, rfl, hT, atI_Ls h1, _, _, rfl, rfl, ?_, ?_⟩
        · show (0 : Int) < (at0 L r : Int); omega
        · refine ⟨by show 2 ≤ sizeLine; decide, fun p hp => ?_⟩
          have e2 : ((c : Int) - 1) % (at0 L r : Int) = ((step L (r, c) .cm).2 : Int) := by
            show ((c : Int) - 1) % (at0 L r : Int) = (((c + at0 L r - 1) % at0 L r : Nat) : Int)
            rw [Int.natCast_emod, show ((c + at0 L r - 1 : Nat) : Int) = (c : Int) - 1 + (at0 L r : Int) by omega, Int.add_emod_right]
          exact q p _ (same_upd hp) (by rw [upd_same, ← e2]; rfl)
      · rw [s_cm] at e1
        have e1 := of_decide_eq_false e1
        have hn : nxR L.length r t < L.length := nxR_lt t h1
        have lq := l.at_pos hn
        refine ⟨.ref a, rfl, _, rfl, _, rfl, a, L, r, t, rfl, hT, h1, ?_⟩
        refine ⟨_, rfl, _, rfl, _, rfl, _, rfl, a, _, _, _, rfl, rfl, hT, atI_Ls hn, _, _, rfl, rfl, _, _, rfl, ?_⟩
        refine ⟨by show 2 ≤ sizeLine; decide, fun p hp => ?_⟩
        have e2 : step L (r, c) t = (nxR L.length r t, min c (at0 L (nxR L.length r t) - 1)) := by
          cases t
          · exact absurd rfl e
          · exact absurd rfl e1
          · rfl
          · rfl
        rw [e2] at q
        have e3 : (if (at0 L (nxR L.length r t) : Int) - 1 < (c : Int) then (at0 L (nxR L.length r t) : Int) - 1 else (c : Int)) = ((min c (at0 L (nxR L.length r t) - 1) : Nat) : Int) := by
          split <;> omega
        exact q p _ (same_upd hp) (by rw [upd_same, ← e3])
theorem get_Ts {s : List Trn} {i : Nat} {x : V} (h : (Ts s)[i]? = some x) : ∃ t, s[i]? = some t ∧ x = .str t.s := by
  unfold Ts at h
  rw [List.getElem?_map] at h
  cases e : s[i]? with
  | none => rw [e] at h; exact nomatch h
  | some t => rw [e] at h; exact ⟨t, rfl, (Option.some.inj h).symm⟩
theorem len_Ts (s : List Trn) : (Ts s).length = s.length := by unfold Ts; exact List.length_map _
theorem run_take (L : List Nat) (p : Nat × Nat) {s : List Trn} {i : Nat} {t : Trn} (h : s[i]? = some t) : run L p (s.take (i + 1)) = step L (run L p (s.take i)) t := by
  rw [List.take_add_one, h, run_append]
  rfl
def spAfterScript (K : PySem.W.Frag) : Sp := fun vs H Q _ => ∃ (a b c : Addr) (L : List Nat) (p : Nat × Nat) (s : List Trn), vs = [.ref a, .ref b, .ref c] ∧ SqT K H a (Ls L) ∧ SqT K H b [.int (p.1 : Int), .int (p.2 : Int)] ∧ SqT K H c (Ts s) ∧
  Lens L ∧ Fits L p ∧ ∀ q H', Same H H' → SqT K H' q [.int ((run L p s).1 : Int), .int ((run L p s).2 : Int)] → Q (.ref q) H'
theorem ok_after_script (G : Gb K mg) (F : Std K mg "after_script" s_after_script [] f fd) (D_after_turn : Def P w K mg base "after_turn" 2 pr_after_turn [] (spAfterTurn K)) : Def P w K mg base "after_script" 3 pr_after_script [] (spAfterScript K) := by
  refine Def.of F sc_after_script (fun _ _ _ _ _ _ us hl => match us, hl with | [_, _, _], _ => rfl) (fun vs H Q E h => ?_) (fun cdv A outer s H vs Q E hr h => ?_)
  · obtain ⟨a, b, c, L, p, s, rfl, _⟩ := h
    rfl
  · obtain ⟨a, b, c, L, p, sc, rfl, hT, hp, hs, l, hf, q⟩ := h
    refine ⟨_, (pss_cons (ps_for PassesOwn.never rfl (pi_tup (pv 2)) (pg_name (i := 3) sc_after_script.nd rfl (Or.inl rfl)) (pss_one (ps_set (i := 1) sc_after_script.nd rfl (Or.inl rfl) (pe_callD D_after_turn (hr.mono (by decide)) (by rfl) (pa_cons (pv 0) (pa_cons (pv 1) (pa_cons (pv 3) pa_nil)))))))
      (pss_one (ps_ret (pv 1)))), ?_⟩
    refine ⟨_, rfl, c, rfl, ⟨_, hs⟩, for_it (walk_tup (xs := Ts sc)) (fun i σ H2 => ∃ d z, σ = [some (.ref a), some (.ref d), some (.ref c), z] ∧ Same H H2 ∧ SqT K H2 d [.int ((run L p (sc.take i)).1 : Int), .int ((run L p (sc.take i)).2 : Int)])
      ⟨b, none, rfl, Same.refl H, hp⟩ (fun i σ H2 _ ⟨_, _, _, s2, _⟩ => s2.seqT hs) ?_ ?_⟩
    · rintro i x σ H2 H3 hi ⟨d, z, rfl, s2, hd⟩ ⟨rfl, hx⟩
      obtain ⟨t, ht, rfl⟩ := get_Ts hx
      refine ⟨_, rfl, _, rfl, _, rfl, a, d, L, _, t, rfl, s2.seqT hT, hd, l, run_fits l _ hf, fun q3 H4 s4 hq => ?_⟩
      refine ⟨q3, _, rfl, s2.trans s4, ?_⟩
      rw [run_take L p ht]
      exact SqT.of hq
    · rintro σ H2 ⟨d, z, rfl, s2, hd⟩
      rw [len_Ts, List.take_length] at hd
      exact ⟨_, rfl, q d H2 s2 hd⟩
/-- is_lengths of lengths -/
def spIsLengths (K : PySem.W.Frag) : Sp := fun vs H Q _ => ∃ (a : Addr) (L : List Nat), vs = [.ref a] ∧ SqT K H a (Ls L) ∧ Lens L ∧ ∀ H', Same H H' → Q (.bl true) H'
theorem ok_is_lengths (G : Gb K mg) (F : Std K mg "is_lengths" s_is_lengths [] f fd) (D_is_integer : Def P w K mg base "is_integer" 1 pr_is_integer [] spIsInt) : Def P w K mg base "is_lengths" 2 pr_is_lengths [] (spIsLengths K) := by
  refine Def.of F sc_is_lengths (fun _ _ _ _ _ _ us hl => match us, hl with | [_], _ => rfl) (fun vs H Q E h => ?_) (fun cdv A outer s H vs Q E hr h => ?_)
  · obtain ⟨a, L, rfl, _⟩ := h
    rfl
  · obtain ⟨a, L, rfl, hT, l, q⟩ := h
    refine ⟨_, (pss_cons (ps_if (PW.pt (pw_or (pt_not (pt_val (pe_callB call_isi (by rfl) G.isinstance_ (by decide +kernel) (pa_cons (pv 0) (pa_cons (pe_bltn (v := .ty "tuple") (u := .type "tuple") (by rfl) G.tuple_ (by decide +kernel) rfl) pa_nil))))) (pw_or1 (pt_not (pt_chain op_le op_le pe_int (pe_callB (len_seqK K rfl) (by rfl) G.len_ (by decide +kernel) (pa_cons (pv 0) pa_nil)) (pe_globI (by rfl) G.MAX_ROWS)))))) (pss_one (ps_ret pe_bl)) pss_nil)
      (pss_one (ps_ret (pe_callB (allK K rfl rfl) (by rfl) G.all_ (by decide +kernel) (pa_cons (pe_lc (own := [("one", 1)]) (g := (gName 1)) (tt := tYes) rfl sc_is_lengths.nd (pi_tup (pv 0)) (blkOk_by (own := [("one", 1)]) (N := nm_is_lengths) (sc := defScope s_is_lengths) (by decide +kernel)) (fun _ _ _ _ _ => (pg_name (i := 1) sc_is_lengths.nd rfl (Or.inl rfl))) (fun _ _ _ _ _ => pts_nil) (fun _ _ _ _ _ => (pe_callD D_is_integer (hr.mono (by decide)) (by rfl) (pa_cons (pv 1) (pa_cons pe_int (pa_cons (pe_globI (by rfl) G.MAX_LENGTH) pa_nil)))))) pa_nil))))), ?_⟩
    refine ⟨_, rfl, .ref a, .ty "tuple", .type "tuple", .type "tuple", true, rfl, .ty _, ty_tup hT, kit_ty (by decide +kernel), true, rfl, iteF ?_⟩
    have e1 : decide ((1 : Int) ≤ ((Ls L).length : Int)) = true := decide_eq_true (by rw [len_Ls]; have := l.ne; omega)
    have e2 : decide (((Ls L).length : Int) ≤ 12) = true := decide_eq_true (by rw [len_Ls]; have := l.le; omega)
    refine ⟨_, rfl, a, _, rfl, .inr hT, _, _, rfl, rfl, _, rfl, iteC e1 ?_⟩
    refine ⟨_, _, rfl, rfl, _, rfl, iteN (by rw [e2]; rfl) ?_⟩
    refine ⟨_, rfl, a, rfl, ⟨_, hT⟩, fun D hD => lc_it (walk_tup (xs := Ls L)) (fun i H2 => Same H H2 ∧ H2 D = some (.lst ((List.replicate i true).map V.bl)))
      ⟨same_upd hD, upd_same⟩ (fun i H2 _ ⟨s2, _⟩ => s2.seqT hT) ?_ ?_⟩
    · rintro i x H2 H3 hi ⟨s2, hd⟩ ⟨rfl, hx⟩
      have hi' : i < L.length := by rw [len_Ls] at hi; exact hi
      rw [get_Ls hi'] at hx
      cases hx
      have lp := l.at_pos hi'
      refine ⟨rfl, yesT ?_⟩
      refine ⟨_, rfl, _, _, _, rfl, ?_⟩
      rw [decide_eq_true (show (1 : Int) ≤ (at0 L i : Int) by omega), decide_eq_true (show (at0 L i : Int) ≤ 31 by omega)]
      refine ⟨_, hd, ?_, s2.updN hD, ?_⟩
      · rw [List.length_map, List.length_replicate]
        exact small1000 (by have := l.le; omega)
      · rw [upd_same, ← map_rep]
        rfl
    · rintro H2 ⟨s2, hd⟩
      refine ⟨D, _, rfl, SqL.of hd, ?_⟩
      rw [all_rep]
      exact q H2 s2
end
end WT
/-! ### wheels: needs -/
namespace WT
open PySem PySem.Spec PyProof.Rows L2
section
variable {P : Program} {w : World} {K : PySem.W.Frag} {mg : Str → Option Value} {base : Heap} {f : Addr} {fd : FuncData}
def spNeedL (K : PySem.W.Frag) : Sp := fun vs H Q _ => ∃ (a : Addr) (L : List Nat), vs = [.ref a] ∧ SqT K H a (Ls L) ∧ Lens L ∧ ∀ H', Same H H' → Q .non H'
theorem ok_need_lengths (G : Gb K mg) (F : Std K mg "need_lengths" s_need_lengths [] f fd) (D_is_lengths : Def P w K mg base "is_lengths" 2 pr_is_lengths [] (spIsLengths K)) : Def P w K mg base "need_lengths" 3 pr_need_lengths [] (spNeedL K) := by
  refine Def.of F sc_need_lengths (fun _ _ _ _ _ _ us hl => match us, hl with | [_], _ => rfl) (fun vs H Q E h => ?_) (fun cdv A outer s H vs Q E hr h => ?_)
  · obtain ⟨a, L, rfl, _⟩ := h
    rfl
  · obtain ⟨a, L, rfl, hT, l, q⟩ := h
    refine ⟨_, (pss_one (ps_if (pt_not (pt_val (pe_callD D_is_lengths (hr.mono (by decide)) (by rfl) (pa_cons (pv 0) pa_nil)))) (pss_one ps_never) pss_nil)), ?_⟩
    exact ⟨_, rfl, a, L, rfl, hT, l, fun H' s' => ⟨true, rfl, iteF (q H' s')⟩⟩
def spIsTurn : Sp := fun vs H Q _ => ∃ t : Trn, vs = [.str t.s] ∧ Q (.bl true) H
theorem in_turns (t : Trn) : inV (.str t.s) [.str "C+", .str "C-", .str "R+", .str "R-"] = true := by cases t <;> decide +kernel
theorem flat_turns : ([.str "C+", .str "C-", .str "R+", .str "R-"] : List V).all flatV = true := by decide +kernel
theorem ok_is_turn (G : Gb K mg) (F : Std K mg "is_turn" s_is_turn [] f fd) : Def P w K mg base "is_turn" 1 pr_is_turn [] spIsTurn := by
  refine Def.of F sc_is_turn (fun _ _ _ _ _ _ us hl => match us, hl with | [_], _ => rfl) (fun vs H Q E h => ?_) (fun cdv A outer s H vs Q E hr h => ?_)
  · obtain ⟨t, rfl, _⟩ := h
    rfl
  · obtain ⟨t, rfl, q⟩ := h
    refine ⟨_, (pss_one (ps_ret (pe_and (pe_callB call_isi (by rfl) G.isinstance_ (by decide +kernel) (pa_cons (pv 0) (pa_cons (pe_bltn (v := .ty "str") (u := .type "str") (by rfl) G.str_ (by decide +kernel) rfl) pa_nil))) (pe_one (pe_cmpR (op_inK K rfl) (pv 0) (pe_glob (v := .ref _) (by rfl) G.TURNS rfl) (by with_unfolding_all rfl)))))), ?_⟩
    refine ⟨_, rfl, .str t.s, .ty "str", .type "str", .type "str", true, rfl, .ty _, .base (.str _), kit_ty (by decide +kernel), true, rfl, iteT ?_⟩
    refine ⟨_, rfl, _, _, rfl, .inr (G.TURNST _), rfl, flat_turns, ?_⟩
    show Q (.bl (if false = true then !inV (.str t.s) _ else inV (.str t.s) _)) H
    rw [if_neg Bool.false_ne_true, in_turns]
    exact q
def spIsScript (K : PySem.W.Frag) : Sp := fun vs H Q _ => ∃ (a : Addr) (sc : List Trn) (m : Int), vs = [.ref a, .int m] ∧ SqT K H a (Ts sc) ∧ (sc.length : Int) ≤ m ∧ sc.length ≤ 1000 ∧ ∀ H', Same H H' → Q (.bl true) H'
theorem ok_is_script (G : Gb K mg) (F : Std K mg "is_script" s_is_script [] f fd) (D_is_turn : Def P w K mg base "is_turn" 1 pr_is_turn [] spIsTurn) : Def P w K mg base "is_script" 2 pr_is_script [] (spIsScript K) := by
  refine Def.of F sc_is_script (fun _ _ _ _ _ _ us hl => match us, hl with | [_, _], _ => rfl) (fun vs H Q E h => ?_) (fun cdv A outer s H vs Q E hr h => ?_)
  · obtain ⟨a, sc, m, rfl, _⟩ := h
    rfl
  · obtain ⟨a, sc, m, rfl, hT, h1, h2, q⟩ := h
    refine ⟨_, (pss_one (ps_ret (pe_and (pe_callB call_isi (by rfl) G.isinstance_ (by decide +kernel) (pa_cons (pv 0) (pa_cons (pe_bltn (v := .ty "tuple") (u := .type "tuple") (by rfl) G.tuple_ (by decide +kernel) rfl) pa_nil))) (pe_and (pe_cmpR op_le (pe_callB (len_seqK K rfl) (by rfl) G.len_ (by decide +kernel) (pa_cons (pv 0) pa_nil)) (pv 1) (nomark _)) (pe_one (pe_callB (allK K rfl rfl) (by rfl) G.all_ (by decide +kernel) (pa_cons (pe_lc (own := [("turn", 2)]) (g := (gName 2)) (tt := tYes) rfl sc_is_script.nd (pi_tup (pv 0)) (blkOk_by (own := [("turn", 2)]) (N := nm_is_script) (sc := defScope s_is_script) (by decide +kernel)) (fun _ _ _ _ _ => (pg_name (i := 2) sc_is_script.nd rfl (Or.inl rfl))) (fun _ _ _ _ _ => pts_nil) (fun _ _ _ _ _ => (pe_callD D_is_turn (hr.mono (by decide)) (by rfl) (pa_cons (pv 2) pa_nil)))) pa_nil))))))), ?_⟩
    refine ⟨_, rfl, .ref a, .ty "tuple", .type "tuple", .type "tuple", true, rfl, .ty _, ty_tup hT, kit_ty (by decide +kernel), true, rfl, iteT ?_⟩
    refine ⟨_, rfl, a, _, rfl, .inr hT, _, rfl, _, _, rfl, rfl, _, rfl, iteC (decide_eq_true (by rw [len_Ts]; exact h1)) ?_⟩
    refine ⟨_, rfl, a, rfl, ⟨_, hT⟩, fun D hD => lc_it (walk_tup (xs := Ts sc)) (fun i H2 => Same H H2 ∧ H2 D = some (.lst ((List.replicate i true).map V.bl)))
      ⟨same_upd hD, upd_same⟩ (fun i H2 _ ⟨s2, _⟩ => s2.seqT hT) ?_ ?_⟩
    · rintro i x H2 H3 hi ⟨s2, hd⟩ ⟨rfl, hx⟩
      obtain ⟨t, ht, rfl⟩ := get_Ts hx
      rw [len_Ts] at hi
      refine ⟨rfl, yesT ?_⟩
      refine ⟨_, rfl, t, rfl, _, hd, ?_, s2.updN hD, ?_⟩
      · rw [List.length_map, List.length_replicate]
        exact small1000 (by omega)
      · rw [upd_same, ← map_rep]
    · rintro H2 ⟨s2, hd⟩
      refine ⟨D, _, rfl, SqL.of hd, ?_⟩
      rw [all_rep]
      exact q H2 s2
def spNeedScript (K : PySem.W.Frag) : Sp := fun vs H Q _ => ∃ (a : Addr) (sc : List Trn) (m : Int), vs = [.ref a, .int m] ∧ SqT K H a (Ts sc) ∧ (sc.length : Int) ≤ m ∧ sc.length ≤ 1000 ∧ ∀ H', Same H H' → Q .non H'
theorem need_script_run (G : Gb K mg) (F : Std K mg "need_script" s_need_script [.int 200] f fd) (D_is_script : Def P w K mg base "is_script" 2 pr_is_script [] (spIsScript K)) : FnOk P w K mg base CX0 3 f fd pr_need_script (spNeedScript K) := by
  refine F.fn.ok sc_need_script (fun vs H Q E h => ?_) (fun cdv A outer s H vs Q E hr h => ?_)
  · obtain ⟨a, sc, m, rfl, _⟩ := h
    rfl
  · obtain ⟨a, sc, m, rfl, hT, h1, h2, q⟩ := h
    refine ⟨_, PSs.nox ((pss_one (ps_if (pt_not (pt_val (pe_callD D_is_script (hr.mono (by decide)) (by rfl) (pa_cons (pv 0) (pa_cons (pv 1) pa_nil))))) (pss_one ps_never) pss_nil))), ?_⟩
    exact ⟨_, rfl, _, rfl, a, sc, m, rfl, hT, h1, h2, fun H' s' => ⟨true, rfl, iteF (q H' s')⟩⟩
theorem ok_need_script (G : Gb K mg) (F : Std K mg "need_script" s_need_script [.int 200] f fd) (D_is_script : Def P w K mg base "is_script" 2 pr_is_script [] (spIsScript K)) : Def P w K mg base "need_script" 3 pr_need_script [.int 200] (spNeedScript K) := by
  obtain ⟨ds, h1, h2⟩ := F.fn.binds1 (ps := pr_need_script) 1 0 (by decide) rfl fun T kV doc pm an cdv ct us its hl h2 => match us, its, hl, h2 with | [_], [_], _, _ => ⟨_, rfl, rfl⟩
  exact ⟨f, fd, ds, F.gl, need_script_run G F D_is_script, F.fn.kp, h2, h1⟩
theorem ok_need_script2 (G : Gb K mg) (F : Std K mg "need_script" s_need_script [.int 200] f fd) (D_is_script : Def P w K mg base "is_script" 2 pr_is_script [] (spIsScript K)) : Def P w K mg base "need_script" 3 pr_need_script [] (spNeedScript K) := by
  obtain ⟨ds, h1, h2⟩ := F.fn.binds1 (ps := pr_need_script) 2 1 (by decide) rfl fun T kV doc pm an cdv ct us its hl h2 => match us, its, hl, h2 with | [_, _], [_], _, _ => ⟨_, rfl, rfl⟩
  exact ⟨f, fd, ds, F.gl, need_script_run G F D_is_script, F.fn.kp, h2, h1⟩
def spNeedRow (K : PySem.W.Frag) : Sp := fun vs H Q _ => ∃ (a : Addr) (L : List Nat) (r : Nat), vs = [.ref a, .int (r : Int)] ∧ SqT K H a (Ls L) ∧ r < L.length ∧ Q .non H
theorem ok_need_row (G : Gb K mg) (F : Std K mg "need_row" s_need_row [] f fd) (D_is_integer : Def P w K mg base "is_integer" 1 pr_is_integer [] spIsInt) : Def P w K mg base "need_row" 2 pr_need_row [] (spNeedRow K) := by
  refine Def.of F sc_need_row (fun _ _ _ _ _ _ us hl => match us, hl with | [_, _], _ => rfl) (fun vs H Q E h => ?_) (fun cdv A outer s H vs Q E hr h => ?_)
  · obtain ⟨a, L, r, rfl, _⟩ := h
    rfl
  · obtain ⟨a, L, r, rfl, hT, hlt, q⟩ := h
    refine ⟨_, (pss_one (ps_if (pt_not (pt_val (pe_callD D_is_integer (hr.mono (by decide)) (by rfl) (pa_cons (pv 1) (pa_cons pe_int (pa_cons (pe_op op_sub (pe_callB (len_seqK K rfl) (by rfl) G.len_ (by decide +kernel) (pa_cons (pv 0) pa_nil)) pe_int) pa_nil)))))) (pss_one ps_never) pss_nil)), ?_⟩
    refine ⟨_, rfl, _, rfl, a, _, rfl, .inr hT, _, _, rfl, rfl, _, _, _, rfl, ?_⟩
    rw [decide_eq_true (show (0 : Int) ≤ (r : Int) by omega), decide_eq_true (show (r : Int) ≤ ((Ls L).length : Int) - 1 by rw [len_Ls]; omega)]
    exact ⟨true, rfl, iteF q⟩
end
end WT
/-! ### maps: the ends of a row's columns -/
namespace WT
open PySem PySem.Spec PyProof.Rows L2
def endsOf (L : List Nat) (r : Nat) (s : List Trn) : List (Nat × Nat) := (List.range (at0 L r)).map fun i => run L (r, i) s
theorem endsOf_len (L : List Nat) (r : Nat) (s : List Trn) : (endsOf L r s).length = at0 L r := by unfold endsOf; rw [List.length_map, List.length_range]
theorem endsOf_get {L : List Nat} {r : Nat} {s : List Trn} {i : Nat} (h : i < at0 L r) : (endsOf L r s)[i]? = some (run L (r, i) s) := by
  unfold endsOf
  rw [List.getElem?_map, List.getElem?_range h]
  rfl
theorem endsOf_cols (L : List Nat) (r : Nat) (s : List Trn) : (endsOf L r s).map (·.2) = colsOf L r s := by
  unfold endsOf colsOf
  rw [List.map_map]
  rfl
theorem colsOf_len (L : List Nat) (r : Nat) (s : List Trn) : (colsOf L r s).length = at0 L r := by rw [← endsOf_cols, List.length_map, endsOf_len]
/-- a list of pairs as it stands -/
structure Prs (K : PySem.W.Frag) (H : Hp) (es : List Addr) (ps : List (Nat × Nat)) : Prop where
  len : es.length = ps.length
  get : ∀ (i : Nat) (e : Addr) (p : Nat × Nat), es[i]? = some e → ps[i]? = some p → SqT K H e [.int (p.1 : Int), .int (p.2 : Int)]
theorem Prs.nil {K : PySem.W.Frag} {H : Hp} : Prs K H [] [] := ⟨rfl, fun i e p h => by simp at h⟩
theorem Prs.same {K : PySem.W.Frag} {H H' : Hp} {es : List Addr} {ps : List (Nat × Nat)} (x : Prs K H es ps) (s : Same H H') : Prs K H' es ps := ⟨x.len, fun i e p h1 h2 => s.seqT (x.get i e p h1 h2)⟩
theorem Prs.mono {K : PySem.W.Frag} {H H' : Hp} {es : List Addr} {ps : List (Nat × Nat)} (x : Prs K H es ps) (s : ∀ a xs, SqT K H a xs → SqT K H' a xs) : Prs K H' es ps := ⟨x.len, fun i e p h1 h2 => s _ _ (x.get i e p h1 h2)⟩
theorem Prs.snoc {K : PySem.W.Frag} {H : Hp} {es : List Addr} {ps : List (Nat × Nat)} {e : Addr} {p : Nat × Nat} (x : Prs K H es ps) (h : SqT K H e [.int (p.1 : Int), .int (p.2 : Int)]) : Prs K H (es ++ [e]) (ps ++ [p]) := by
  refine ⟨by rw [List.length_append, List.length_append, x.len]; rfl, fun i e' p' h1 h2 => ?_⟩
  by_cases hi : i < es.length
  · rw [List.getElem?_append_left hi] at h1
    rw [List.getElem?_append_left (by rw [← x.len]; exact hi)] at h2
    exact x.get i e' p' h1 h2
  · by_cases he : i = es.length
    · subst he
      rw [List.getElem?_append_right (Nat.le_refl _), Nat.sub_self] at h1
      rw [List.getElem?_append_right (by rw [x.len]; exact Nat.le_refl _), x.len, Nat.sub_self] at h2
      cases h1
      cases h2
      exact h
    · rw [List.getElem?_eq_none (by rw [List.length_append]; show es.length + 1 ≤ i; omega)] at h1
      cases h1
theorem Prs.at_ {K : PySem.W.Frag} {H : Hp} {es : List Addr} {ps : List (Nat × Nat)} (x : Prs K H es ps) {i : Nat} {p : Nat × Nat} (h : ps[i]? = some p) : ∃ e, es[i]? = some e ∧ SqT K H e [.int (p.1 : Int), .int (p.2 : Int)] := by
  have hi : i < es.length := by rw [x.len]; exact (List.getElem?_eq_some_iff.mp h).1
  exact ⟨es[i], List.getElem?_eq_getElem hi, x.get i _ p (List.getElem?_eq_getElem hi) h⟩
theorem get_ref {es : List Addr} {i : Nat} {x : V} (h : (es.map V.ref)[i]? = some x) : ∃ e, es[i]? = some e ∧ x = .ref e := by
  rw [List.getElem?_map] at h
  cases q : es[i]? with
  | none => rw [q] at h; exact nomatch h
  | some e => rw [q] at h; exact ⟨e, rfl, (Option.some.inj h).symm⟩
theorem small31 {n : Nat} (h : n ≤ 31) : n < sizeLine := small1000 (by omega)
section
variable {P : Program} {w : World} {K : PySem.W.Frag} {mg : Str → Option Value} {base : Heap} {f : Addr} {fd : FuncData}
def spEndsOf (K : PySem.W.Frag) : Sp := fun vs H Q _ => ∃ (a c : Addr) (L : List Nat) (r : Nat) (sc : List Trn), vs = [.ref a, .int (r : Int), .ref c] ∧ SqT K H a (Ls L) ∧ SqT K H c (Ts sc) ∧ Lens L ∧ r < L.length ∧
  ∀ (D : Addr) (es : List Addr) (H' : Hp), Same H H' → H D = none → H' D = some (.lst (es.map V.ref)) → Prs K H' es (endsOf L r sc) → Q (.ref D) H'
theorem ok_ends_of (G : Gb K mg) (F : Std K mg "ends_of" s_ends_of [] f fd) (D_after_script : Def P w K mg base "after_script" 3 pr_after_script [] (spAfterScript K)) : Def P w K mg base "ends_of" 4 pr_ends_of [] (spEndsOf K) := by
  refine Def.of F sc_ends_of (fun _ _ _ _ _ _ us hl => match us, hl with | [_, _, _], _ => rfl) (fun vs H Q E h => ?_) (fun cdv A outer s H vs Q E hr h => ?_)
  · obtain ⟨a, c, L, r, sc, rfl, _⟩ := h
    rfl
  · obtain ⟨a, c, L, r, sc, rfl, hT, hS, l, h1, q⟩ := h
    have lp := l.at_pos h1
    refine ⟨_, (pss_one (ps_ret (pe_lc (own := [("column", 3)]) (g := (gName 3)) (tt := tYes) rfl sc_ends_of.nd (pi_range1 (by rfl) G.range_ (pa_cons (pe_ix (ix_tupK K rfl) (pv 0) (pv 1) (fun _ _ => rfl)) pa_nil)) (blkOk_by (own := [("column", 3)]) (N := nm_ends_of) (sc := defScope s_ends_of) (by decide +kernel)) (fun _ _ _ _ _ => (pg_name (i := 3) sc_ends_of.nd rfl (Or.inl rfl))) (fun _ _ _ _ _ => pts_nil) (fun _ _ _ _ _ => (pe_callD D_after_script (hr.mono (by decide)) (by rfl) (pa_cons (pv 0) (pa_cons (pe_tup (pa_cons (pv 1) (pa_cons (pv 3) pa_nil))) (pa_cons (pv 2) pa_nil)))))))), ?_⟩
    refine ⟨_, rfl, _, rfl, a, _, _, _, rfl, rfl, hT, atI_Ls h1, _, rfl, by omega, by omega, fun D hD => ?_⟩
    refine lc_it (walk_range (lo := 0) (n := ((at0 L r : Nat) : Int).toNat)) (fun i H2 => Same H H2 ∧ ∃ es, H2 D = some (.lst (es.map V.ref)) ∧ Prs K H2 es ((endsOf L r sc).take i))
      ⟨same_upd hD, [], upd_same, .nil⟩ (fun i H2 _ _ => trivial) ?_ ?_
    · rintro i x H2 H3 hi ⟨s2, es, hd, hp⟩ ⟨rfl, rfl⟩
      rw [Int.toNat_natCast] at hi
      refine ⟨rfl, yesT ?_⟩
      refine ⟨_, rfl, ?_⟩
      refine ⟨_, rfl, _, rfl, by show 2 ≤ sizeLine; decide, fun p np => ?_⟩
      have s3 : Same H3 (upd H3 p (.tup [.int (r : Int), .int (0 + (i : Int))])) := same_upd np
      have hq : (upd H3 p (.tup [.int (r : Int), .int (0 + (i : Int))])) p = some (.tup [.int (((r, i) : Nat × Nat).1 : Int), .int (((r, i) : Nat × Nat).2 : Int)]) := by
        rw [upd_same, Int.zero_add]
      refine ⟨_, rfl, a, p, c, L, (r, i), sc, rfl, s3.seqT (s2.seqT hT), SqT.of hq, s3.seqT (s2.seqT hS), l, ⟨h1, hi⟩, fun e H4 s4 he => ?_⟩
      refine ⟨_, s4 _ _ (s3 _ _ hd), ?_, ((s2.trans s3).trans s4).updN hD, es ++ [e], ?_, ?_⟩
      · rw [List.length_map, hp.len, List.length_take, endsOf_len]
        exact small31 (by omega)
      · rw [upd_same, List.map_append]
        rfl
      · rw [List.take_add_one, endsOf_get hi]
        have dD : ∀ a xs, SqT K H4 a xs → SqT K (upd H4 D (.lst (es.map V.ref ++ [V.ref e]))) a xs := fun b xs hb => by
          have hD4 : H4 D = some (.lst (es.map V.ref)) := s4 _ _ (s3 _ _ hd)
          have nb : b = D → Rd H4 b (.tup xs) → False := by
            rintro rfl (z | ⟨o, z⟩)
            · rw [hD4] at z; cases z
            · rw [hD4] at z; cases z
          rcases hb with z | z
          · have : b ≠ D := fun e => nb e z
            rcases z with z | ⟨o, z⟩
            · exact .inl (.inl (by rw [upd_ne this]; exact z))
            · exact .inl (.inr ⟨o, by rw [upd_ne this]; exact z⟩)
          · exact .inr z
        exact Prs.snoc (((hp.same s3).same s4).mono dD) (dD _ _ he)
    · rintro H2 ⟨s2, es, hd, hp⟩
      rw [Int.toNat_natCast, List.take_of_length_le (by rw [endsOf_len]; exact Nat.le_refl _)] at hp
      exact q D es H2 s2 hD hd hp
def spNeedAll (K : PySem.W.Frag) : Sp := fun vs H Q _ => ∃ (a c : Addr) (L : List Nat) (r : Nat) (sc : List Trn), vs = [.ref a, .int (r : Int), .ref c] ∧ SqT K H a (Ls L) ∧ SqT K H c (Ts sc) ∧ Lens L ∧ r < L.length ∧ sc.length ≤ 200 ∧
  ∀ H', Same H H' → Q .non H'
theorem ok_need_all (G : Gb K mg) (F : Std K mg "need_all" s_need_all [] f fd) (D_need_lengths : Def P w K mg base "need_lengths" 3 pr_need_lengths [] (spNeedL K)) (D_need_row : Def P w K mg base "need_row" 2 pr_need_row [] (spNeedRow K))
    (D_need_script_1 : Def P w K mg base "need_script" 3 pr_need_script [.int 200] (spNeedScript K)) : Def P w K mg base "need_all" 4 pr_need_all [] (spNeedAll K) := by
  refine Def.of F sc_need_all (fun _ _ _ _ _ _ us hl => match us, hl with | [_, _, _], _ => rfl) (fun vs H Q E h => ?_) (fun cdv A outer s H vs Q E hr h => ?_)
  · obtain ⟨a, c, L, r, sc, rfl, _⟩ := h
    rfl
  · obtain ⟨a, c, L, r, sc, rfl, hT, hS, l, h1, h2, q⟩ := h
    refine ⟨_, (pss_cons (ps_expr (pe_callD D_need_lengths (hr.mono (by decide)) (by rfl) (pa_cons (pv 0) pa_nil)))
      (pss_cons (ps_expr (pe_callD D_need_row (hr.mono (by decide)) (by rfl) (pa_cons (pv 0) (pa_cons (pv 1) pa_nil))))
      (pss_one (ps_expr (pe_callD D_need_script_1 (hr.mono (by decide)) (by rfl) (pa_cons (pv 2) pa_nil)))))), ?_⟩
    refine ⟨_, rfl, a, L, rfl, hT, l, fun H2 s2 => ?_⟩
    refine ⟨_, rfl, _, rfl, a, L, r, rfl, s2.seqT hT, h1, ?_⟩
    exact ⟨_, rfl, c, sc, 200, rfl, s2.seqT hS, by omega, by omega, fun H3 s3 => q H3 (s2.trans s3)⟩
/-- the heap at a list of one's own: tuples stay -/
theorem seqT_upd {K : PySem.W.Frag} {H : Hp} {D b : Addr} {xs ys zs : List V} (hD : H D = some (.lst xs)) (hb : SqT K H b zs) : SqT K (upd H D (.lst ys)) b zs := by
  have nb : b = D → Rd H b (.tup zs) → False := by
    rintro rfl (z | ⟨o, z⟩)
    · rw [hD] at z; cases z
    · rw [hD] at z; cases z
  rcases hb with z | z
  · have : b ≠ D := fun e => nb e z
    rcases z with z | ⟨o, z⟩
    · exact .inl (.inl (by rw [upd_ne this]; exact z))
    · exact .inl (.inr ⟨o, by rw [upd_ne this]; exact z⟩)
  · exact .inr z
def spColumnsAfter (K : PySem.W.Frag) : Sp := fun vs H Q _ => ∃ (a c : Addr) (L : List Nat) (r : Nat) (sc : List Trn), vs = [.ref a, .int (r : Int), .ref c] ∧ SqT K H a (Ls L) ∧ SqT K H c (Ts sc) ∧ Lens L ∧ r < L.length ∧ sc.length ≤ 200 ∧
  ∀ (p T : Addr) (H' : Hp), Same H H' → H' p = some (.tup [.int (rowOf L.length r sc : Int), .ref T]) → H' T = some (.tup (Ls (colsOf L r sc))) → Q (.ref p) H'
theorem ok_columns_after (G : Gb K mg) (F : Std K mg "columns_after" s_columns_after [] f fd) (D_need_all : Def P w K mg base "need_all" 4 pr_need_all [] (spNeedAll K)) (D_ends_of : Def P w K mg base "ends_of" 4 pr_ends_of [] (spEndsOf K)) : Def P w K mg base "columns_after" 5 pr_columns_after [] (spColumnsAfter K) := by
  refine Def.of F sc_columns_after (fun _ _ _ _ _ _ us hl => match us, hl with | [_, _, _], _ => rfl) (fun vs H Q E h => ?_) (fun cdv A outer s H vs Q E hr h => ?_)
  · obtain ⟨a, c, L, r, sc, rfl, _⟩ := h
    rfl
  · obtain ⟨a, c, L, r, sc, rfl, hT, hS, l, h1, h2, q⟩ := h
    have lp := l.at_pos h1
    refine ⟨_, (pss_cons (ps_expr (pe_callD D_need_all (hr.mono (by decide)) (by rfl) (pa_cons (pv 0) (pa_cons (pv 1) (pa_cons (pv 2) pa_nil)))))
      (pss_cons (ps_set (i := 3) sc_columns_after.nd rfl (Or.inl rfl) (pe_callD D_ends_of (hr.mono (by decide)) (by rfl) (pa_cons (pv 0) (pa_cons (pv 1) (pa_cons (pv 2) pa_nil)))))
      (pss_one (ps_ret (pe_tup (pa_cons (pe_ix (ix_tupK K rfl) (pe_ix (ix_listK K rfl) (pv 3) pe_int (fun _ _ => rfl)) pe_int (fun _ _ => rfl)) (pa_cons (pe_callTy (tuple_ofK K rfl) (by rfl) G.tuple_ (by decide +kernel) (pa_cons (pe_lc (own := [("last", 4), ("column", 5)]) (g := (gTup K 2 (gCons (gName 4) (gCons (gName 5) gNil)))) (tt := tYes) rfl sc_columns_after.nd (pi_list (pv 3)) (blkOk_by (own := [("last", 4), ("column", 5)]) (N := nm_columns_after) (sc := defScope s_columns_after) (by decide +kernel)) (fun _ _ _ _ _ => (pg_tup rfl (pgs_cons (pg_name (i := 4) sc_columns_after.nd rfl (Or.inl rfl)) (pgs_cons (pg_name (i := 5) sc_columns_after.nd rfl (Or.inl rfl)) pgs_nil)))) (fun _ _ _ _ _ => pts_nil) (fun _ _ _ _ _ => (pv 5))) pa_nil)) pa_nil))))))), ?_⟩
    refine ⟨_, rfl, _, rfl, _, rfl, a, c, L, r, sc, rfl, hT, hS, l, h1, h2, fun H2 s2 => ?_⟩
    refine ⟨_, rfl, _, rfl, _, rfl, a, c, L, r, sc, rfl, s2.seqT hT, s2.seqT hS, l, h1, fun E es H3 s3 nE hE hp => ?_⟩
    have g0 : (endsOf L r sc)[0]? = some (run L (r, 0) sc) := endsOf_get (by omega)
    obtain ⟨e0, ge0, te0⟩ := hp.at_ g0
    have gE : atI (es.map V.ref) 0 = some (.ref e0) := atI_nat (j := 0) (by rw [List.getElem?_map, ge0]; rfl)
    refine ⟨_, rfl, E, _, 0, .ref e0, rfl, rfl, SqL.of hE, gE, e0, _, 0, _, rfl, rfl, te0, atI_nat (j := 0) rfl, ?_⟩
    refine ⟨_, rfl, E, rfl, ⟨_, SqL.of hE⟩, fun D hD => lc_it (walk_list (xs := es.map V.ref)) (fun i H4 => Same H3 H4 ∧ H4 D = some (.lst ((Ls (colsOf L r sc)).take i)))
      ⟨same_upd hD, upd_same⟩ (fun i H4 _ ⟨s4, _⟩ => s4.seq (SqL.of hE)) ?_ ?_⟩
    · rintro i x H4 H5 hi ⟨s4, hd⟩ ⟨rfl, hx⟩
      obtain ⟨e, he, rfl⟩ := get_ref hx
      rw [List.length_map, hp.len, endsOf_len] at hi
      have te := hp.get i e _ he (endsOf_get hi)
      refine ⟨e, _, rfl, s4.seqT te, rfl, _, _, rfl, _, _, rfl, rfl, rfl, yesT ?_⟩
      refine ⟨_, rfl, _, hd, ?_, s4.updN hD, ?_⟩
      · rw [List.length_take, len_Ls, colsOf_len]
        exact small31 (by omega)
      · rw [upd_same, List.take_add_one]
        have e2 : (Ls (colsOf L r sc))[i]? = some (.int ((run L (r, i) sc).2 : Int)) := by
          unfold Ls
          rw [← endsOf_cols, List.map_map, List.getElem?_map, endsOf_get hi]
          rfl
        rw [e2]
        rfl
    · rintro H4 ⟨s4, hd⟩
      rw [List.length_map, hp.len, endsOf_len, List.take_of_length_le (by rw [len_Ls, colsOf_len]; exact Nat.le_refl _)] at hd
      refine ⟨D, _, rfl, .inl ⟨SqL.of hd, fun T nT => ?_⟩⟩
      refine ⟨by show 2 ≤ sizeLine; decide, fun p np => ?_⟩
      refine q p T _ ((((s2.trans s3).trans s4).trans (same_upd nT)).trans (same_upd np)) ?_ ?_
      · rw [upd_same, ← run_row L sc (r, 0)]
      · rw [upd_ne (ne_of_none (upd_same (H := H4) (a := T) (o := .tup (Ls (colsOf L r sc)))) np), upd_same]
end
end WT
/-! ### maps: kept, leading_to -/
namespace WT
open PySem PySem.Spec PyProof.Rows L2
/-- how many different settings -/
def kpt (L : List Nat) (r : Nat) (s : List Trn) : Nat := (endsOf L r s).eraseDups.length
theorem eraseDups_nodup {α : Type} [BEq α] [LawfulBEq α] (l : List α) : l.eraseDups.Nodup := by
  have key : ∀ n, ∀ l : List α, l.length ≤ n → l.eraseDups.Nodup := by
    intro n
    induction n with
    | zero => intro l h; rw [List.length_eq_zero_iff.mp (by omega : l.length = 0)]; simp
    | succ n ih =>
      intro l h
      cases l with
      | nil => simp
      | cons a l =>
        rw [List.eraseDups_cons]
        refine List.nodup_cons.mpr ⟨fun hm => ?_, ih _ ?_⟩
        · have := List.mem_eraseDups.mp hm
          have := (List.mem_filter.mp this).2
          simp at this
        · have := List.length_filter_le (fun b => !b == a) l
          simp only [List.length_cons] at h
          omega
  exact key l.length l (Nat.le_refl _)
theorem nodup_len_le {α : Type} [DecidableEq α] : ∀ (l k : List α), l.Nodup → (∀ x ∈ l, x ∈ k) → l.length ≤ k.length
  | [], _, _, _ => Nat.zero_le _
  | a :: l, k, hn, hs => by
    obtain ⟨h1, h2⟩ := List.nodup_cons.mp hn
    have ha := hs a (List.mem_cons_self ..)
    have := nodup_len_le l (k.erase a) h2 fun x hx => (List.mem_erase_of_ne (fun e => h1 (by rw [← e]; exact hx) : x ≠ a)).mpr (hs x (List.mem_cons_of_mem _ hx))
    rw [List.length_erase_of_mem ha] at this
    have := List.length_pos_of_mem ha
    simp only [List.length_cons]
    omega
/-- a list without doubles that has the members of another one -/
theorem nodup_len_eq {α : Type} [DecidableEq α] {l k : List α} (h1 : l.Nodup) (h2 : k.Nodup) (h : ∀ x, x ∈ l ↔ x ∈ k) : l.length = k.length :=
  Nat.le_antisymm (nodup_len_le l k h1 fun x => (h x).mp) (nodup_len_le k l h2 fun x => (h x).mpr)
def p2i (p : Nat × Nat) : List Int := [(p.1 : Int), (p.2 : Int)]
theorem p2i_inj {p q : Nat × Nat} (h : p2i p = p2i q) : p = q := by
  obtain ⟨a, b⟩ := p
  obtain ⟨c, d⟩ := q
  unfold p2i at h
  simp only [List.cons.injEq, Int.natCast_inj, and_true] at h
  rw [h.1, h.2]
theorem nodup_map_inj {α β : Type} {f : α → β} (hf : ∀ a b, f a = f b → a = b) {l : List α} (h : l.Nodup) : (l.map f).Nodup := by
  refine List.pairwise_map.mpr (List.Pairwise.imp (fun {a b} hab e => hab (hf a b e)) h)
section
variable {P : Program} {w : World} {K : PySem.W.Frag} {mg : Str → Option Value} {base : Heap} {f : Addr} {fd : FuncData}
def spKept (K : PySem.W.Frag) : Sp := fun vs H Q _ => ∃ (a c : Addr) (L : List Nat) (r : Nat) (sc : List Trn), vs = [.ref a, .int (r : Int), .ref c] ∧ SqT K H a (Ls L) ∧ SqT K H c (Ts sc) ∧ Lens L ∧ r < L.length ∧ sc.length ≤ 200 ∧
  ∀ H', Same H H' → Q (.int (kpt L r sc : Int)) H'
theorem ok_kept (G : Gb K mg) (F : Std K mg "kept" s_kept [] f fd) (D_need_all : Def P w K mg base "need_all" 4 pr_need_all [] (spNeedAll K)) (D_ends_of : Def P w K mg base "ends_of" 4 pr_ends_of [] (spEndsOf K)) : Def P w K mg base "kept" 5 pr_kept [] (spKept K) := by
  refine Def.of F sc_kept (fun _ _ _ _ _ _ us hl => match us, hl with | [_, _, _], _ => rfl) (fun vs H Q E h => ?_) (fun cdv A outer s H vs Q E hr h => ?_)
  · obtain ⟨a, c, L, r, sc, rfl, _⟩ := h
    rfl
  · obtain ⟨a, c, L, r, sc, rfl, hT, hS, l, h1, h2, q⟩ := h
    have lp := l.at_pos h1
    refine ⟨_, (pss_cons (ps_expr (pe_callD D_need_all (hr.mono (by decide)) (by rfl) (pa_cons (pv 0) (pa_cons (pv 1) (pa_cons (pv 2) pa_nil)))))
      (pss_one (ps_ret (pe_callB cr_lenSetT (by rfl) G.len_ PySem.boot_len (pa_cons (pe_callTy (cr_setOfT rfl hr.units) (by rfl) G.set_ (by decide +kernel) (pa_cons (pe_callD D_ends_of (hr.mono (by decide)) (by rfl) (pa_cons (pv 0) (pa_cons (pv 1) (pa_cons (pv 2) pa_nil)))) pa_nil)) pa_nil))))), ?_⟩
    refine ⟨_, rfl, _, rfl, _, rfl, a, c, L, r, sc, rfl, hT, hS, l, h1, h2, fun H2 s2 => ?_⟩
    refine ⟨_, rfl, _, rfl, _, rfl, a, c, L, r, sc, rfl, s2.seqT hT, s2.seqT hS, l, h1, fun E es H3 s3 nE hE hp => ?_⟩
    have lz : (es.zip ((endsOf L r sc).map p2i)).length = es.length := by
      rw [List.length_zip, List.length_map, ← hp.len, Nat.min_self]
    refine ⟨E, es.zip ((endsOf L r sc).map p2i), rfl, ?_, ?_, ?_, fun S M nS hm1 hm2 => ?_⟩
    · have e : (es.zip ((endsOf L r sc).map p2i)).map (fun p => V.ref p.1) = es.map V.ref := by
        rw [show (fun p : Addr × List Int => V.ref p.1) = V.ref ∘ Prod.fst from rfl, ← List.map_map, List.map_fst_zip (by rw [List.length_map, hp.len]; exact Nat.le_refl _)]
      rw [e]
      exact SqL.of hE
    · rintro ⟨e, p⟩ hmem
      obtain ⟨i, hi⟩ := List.getElem?_of_mem hmem
      rw [List.getElem?_zip_eq_some] at hi
      obtain ⟨i1, i2⟩ := hi
      have i1 : es[i]? = some e := i1
      have i2 : ((endsOf L r sc).map p2i)[i]? = some p := i2
      rw [List.getElem?_map] at i2
      cases q2 : (endsOf L r sc)[i]? with
      | none => rw [q2] at i2; exact nomatch i2
      | some z =>
        rw [q2] at i2
        cases i2
        exact hp.get i e z i1 q2
    · rw [lz, hp.len, endsOf_len]; omega
    · refine ⟨S, M, rfl, upd_same, fun nd few => ?_⟩
      have e : M.length = kpt L r sc := by
        rw [← List.length_map (f := (·.2)) (as := M)]
        unfold kpt
        rw [← List.length_map (f := p2i) (as := (endsOf L r sc).eraseDups)]
        refine nodup_len_eq nd (nodup_map_inj (fun a b => p2i_inj) (eraseDups_nodup _)) fun x => ⟨fun hx => ?_, fun hx => ?_⟩
        · obtain ⟨m, hm, rfl⟩ := List.mem_map.mp hx
          have h3 := hm1 m hm
          obtain ⟨e, p⟩ := m
          have h4 := (List.of_mem_zip h3).2
          obtain ⟨z, hz, e4⟩ := List.mem_map.mp h4
          exact List.mem_map.mpr ⟨z, List.mem_eraseDups.mpr hz, e4⟩
        · obtain ⟨z, hz, rfl⟩ := List.mem_map.mp hx
          have hz := List.mem_eraseDups.mp hz
          obtain ⟨i, hi⟩ := List.getElem?_of_mem hz
          obtain ⟨e, he, _⟩ := hp.at_ hi
          refine hm2 (e, p2i z) (List.mem_of_getElem? (i := i) ?_)
          rw [List.getElem?_zip_eq_some]
          exact ⟨he, by rw [List.getElem?_map, hi]; rfl⟩
      rw [e]
      exact q _ ((s2.trans s3).trans (same_upd nS))
/-- the places that are led to column v -/
def ledTo (c : List Nat) (v : Nat) : List Nat := (List.range c.length).filter fun i => decide (c[i]? = some v)
def spLeadingTo (K : PySem.W.Frag) : Sp := fun vs H Q _ => ∃ (a c : Addr) (L : List Nat) (r : Nat) (sc : List Trn) (v : Nat), vs = [.ref a, .int (r : Int), .ref c, .int (v : Int)] ∧ SqT K H a (Ls L) ∧ SqT K H c (Ts sc) ∧ Lens L ∧ r < L.length ∧ sc.length ≤ 200 ∧ v ≤ 30 ∧
  ∀ (D : Addr) (H' : Hp), Same H H' → H D = none → H' D = some (.lst (Ls (ledTo (colsOf L r sc) v))) → Q (.ref D) H'
theorem filter_range_succ (p : Nat → Bool) (n : Nat) : (List.range (n + 1)).filter p = (List.range n).filter p ++ (if p n = true then [n] else []) := by
  rw [List.range_succ, List.filter_append]
  congr 1
  by_cases h : p n = true
  · rw [if_pos h, List.filter_cons_of_pos h, List.filter_nil]
  · rw [if_neg h, List.filter_cons_of_neg h, List.filter_nil]
theorem ok_leading_to (G : Gb K mg) (F : Std K mg "leading_to" s_leading_to [] f fd) (D_need_all : Def P w K mg base "need_all" 4 pr_need_all [] (spNeedAll K)) (D_is_integer : Def P w K mg base "is_integer" 1 pr_is_integer [] spIsInt)
    (D_ends_of : Def P w K mg base "ends_of" 4 pr_ends_of [] (spEndsOf K)) : Def P w K mg base "leading_to" 5 pr_leading_to [] (spLeadingTo K) := by
  refine Def.of F sc_leading_to (fun _ _ _ _ _ _ us hl => match us, hl with | [_, _, _, _], _ => rfl) (fun vs H Q E h => ?_) (fun cdv A outer s H vs Q E hr h => ?_)
  · obtain ⟨a, c, L, r, sc, v, rfl, _⟩ := h
    rfl
  · obtain ⟨a, c, L, r, sc, v, rfl, hT, hS, l, h1, h2, h3, q⟩ := h
    have lp := l.at_pos h1
    refine ⟨_, (pss_cons (ps_expr (pe_callD D_need_all (hr.mono (by decide)) (by rfl) (pa_cons (pv 0) (pa_cons (pv 1) (pa_cons (pv 2) pa_nil)))))
      (pss_cons (ps_if (pt_not (pt_val (pe_callD D_is_integer (hr.mono (by decide)) (by rfl) (pa_cons (pv 3) (pa_cons pe_int (pa_cons (pe_op op_sub (pe_globI (by rfl) G.MAX_LENGTH) pe_int) pa_nil)))))) (pss_one ps_never) pss_nil)
      (pss_one (ps_ret (pe_lc (own := [("place", 4), ("last", 5), ("end", 6)]) (g := (gTup K 2 (gCons (gName 4) (gCons (gTup K 2 (gCons (gName 5) (gCons (gName 6) gNil))) gNil)))) rfl sc_leading_to.nd (pi_enum (by rfl) G.enumerate_ (pa_cons (pe_callD D_ends_of (hr.mono (by decide)) (by rfl) (pa_cons (pv 0) (pa_cons (pv 1) (pa_cons (pv 2) pa_nil)))) pa_nil)) (blkOk_by (own := [("place", 4), ("last", 5), ("end", 6)]) (N := nm_leading_to) (sc := defScope s_leading_to) (by decide +kernel)) (fun _ _ _ _ _ => (pg_tup rfl (pgs_cons (pg_name (i := 4) sc_leading_to.nd rfl (Or.inl rfl)) (pgs_cons (pg_tup rfl (pgs_cons (pg_name (i := 5) sc_leading_to.nd rfl (Or.inl rfl)) (pgs_cons (pg_name (i := 6) sc_leading_to.nd rfl (Or.inl rfl)) pgs_nil))) pgs_nil)))) (fun _ _ _ _ _ => (pts_one (pt_cmpR op_eq (pv 6) (pv 3) (nomark _)))) (fun _ _ _ _ _ => (pv 4))))))), ?_⟩
    refine ⟨_, rfl, _, rfl, _, rfl, a, c, L, r, sc, rfl, hT, hS, l, h1, h2, fun H2 s2 => ?_⟩
    refine ⟨_, rfl, _, _, rfl, rfl, (v : Int), 0, 30, rfl, ?_⟩
    rw [decide_eq_true (show (0 : Int) ≤ (v : Int) by omega), decide_eq_true (show (v : Int) ≤ 30 by omega)]
    refine ⟨true, rfl, iteF ?_⟩
    refine ⟨_, rfl, _, rfl, _, rfl, a, c, L, r, sc, rfl, s2.seqT hT, s2.seqT hS, l, h1, fun E es H3 s3 nE hE hp => ?_⟩
    refine ⟨E, _, rfl, SqL.of hE, fun D hD => lc_it (walk_enum (xs := es.map V.ref)) (fun i H4 => Same H3 H4 ∧ H4 D = some (.lst (Ls ((List.range i).filter fun j => decide ((colsOf L r sc)[j]? = some v)))))
      ⟨same_upd hD, upd_same⟩ (fun i H4 _ ⟨s4, _⟩ => s4.seq (SqL.of hE)) ?_ ?_⟩
    · rintro i x H4 H5 hi ⟨s4, hd⟩ ⟨T, x, y, rfl, nT, rfl, hx, hy⟩
      cases hx
      obtain ⟨e, he, rfl⟩ := get_ref hy
      rw [List.length_map, hp.len, endsOf_len] at hi
      have te := hp.get i e _ he (endsOf_get hi)
      have s5 : Same H4 (upd H4 T (.tup [.int (i : Nat), .ref e])) := same_upd nT
      refine ⟨T, _, rfl, SqT.of upd_same, rfl, _, _, rfl, _, _, rfl, ⟨e, _, rfl, s5.seqT (s4.seqT te), rfl, _, _, rfl, _, _, rfl, rfl, rfl, rfl, ?_⟩⟩
      have ec : (colsOf L r sc)[i]? = some (run L (r, i) sc).2 := by rw [← endsOf_cols, List.getElem?_map, endsOf_get hi]; rfl
      refine ⟨_, rfl, _, rfl, rfl, _, rfl, ?_⟩
      have ed : decide (V.int ((run L (r, i) sc).2 : Int) = V.int (v : Int)) = decide ((colsOf L r sc)[i]? = some v) := by
        rw [ec]
        refine decide_eq_decide.mpr ⟨fun h => ?_, fun h => ?_⟩
        · cases h2 : (run L (r, i) sc).2 with
          | _ => rw [h2] at h; injection h with h; rw [Int.natCast_inj.mp h]
        · rw [Option.some.inj h]
      rw [ed]
      refine iteB (fun e1 => ?_) (fun e1 => ?_)
      · refine ⟨_, rfl, _, s5 _ _ hd, ?_, (s4.trans s5).updN hD, ?_⟩
        · rw [len_Ls]
          exact small31 (Nat.le_trans (List.length_filter_le _ _) (by rw [List.length_range]; omega))
        · rw [upd_same, filter_range_succ, if_pos e1]
          unfold Ls
          rw [List.map_append]
          rfl
      · refine ⟨s4.trans s5, ?_⟩
        rw [s5 _ _ hd, filter_range_succ, if_neg (by rw [e1]; exact Bool.false_ne_true), List.append_nil]
    · rintro H4 ⟨s4, hd⟩
      rw [List.length_map, hp.len, endsOf_len, ← colsOf_len L r sc] at hd
      have nD : H D = none := ((s2.trans s3)).free hD
      exact q D H4 ((s2.trans s3).trans s4) nD hd
end
end WT
/-! ### tuples by what they hold; data compared -/
namespace WT
open PySem PySem.Spec PyProof.Rows L2
theorem cut_to (xs : List V) (n : Nat) : cutV xs none (some (n : Int)) = xs.take n := by
  unfold cutV
  rw [HT.sIx_none, HT.sIx_nat, List.drop_zero, Nat.sub_zero]
  by_cases h : n ≤ xs.length
  · rw [Nat.min_eq_left h]
  · rw [Nat.min_eq_right (by omega), List.take_length, List.take_of_length_le (by omega)]
theorem cut_from (xs : List V) (n : Nat) : cutV xs (some (n : Int)) none = xs.drop n := by
  unfold cutV
  rw [HT.sIx_none, HT.sIx_nat]
  by_cases h : n ≤ xs.length
  · rw [Nat.min_eq_left h, List.take_of_length_le (by rw [List.length_drop]; exact Nat.le_refl _)]
  · rw [Nat.min_eq_right (by omega), List.drop_length, List.take_nil, List.drop_of_length_le (by omega)]
theorem cut_both (xs : List V) (n m : Nat) : cutV xs (some (n : Int)) (some (m : Int)) = (xs.take m).drop n := by
  unfold cutV
  rw [HT.sIx_nat, HT.sIx_nat, List.drop_take]
  by_cases h : n ≤ xs.length
  · rw [Nat.min_eq_left h]
    by_cases h2 : m ≤ xs.length
    · rw [Nat.min_eq_left h2]
    · rw [Nat.min_eq_right (by omega), List.take_of_length_le (by rw [List.length_drop]; exact Nat.le_refl _), List.take_of_length_le (by rw [List.length_drop]; omega)]
  · rw [Nat.min_eq_right (show xs.length ≤ n by omega), List.drop_length, List.take_nil, List.drop_of_length_le (by omega), List.take_nil]
theorem Ts_take (s : List Trn) (n : Nat) : (Ts s).take n = Ts (s.take n) := by unfold Ts; rw [List.map_take]
theorem Ts_drop (s : List Trn) (n : Nat) : (Ts s).drop n = Ts (s.drop n) := by unfold Ts; rw [List.map_drop]
theorem Ts_append (s u : List Trn) : Ts s ++ Ts u = Ts (s ++ u) := by unfold Ts; rw [List.map_append]
/-! data -/
def dN (L : List Nat) : List PyData := L.map fun n : Nat => PyData.int (n : Int)
def dP (p : Nat × Nat) : PyData := .tuple [.int (p.1 : Int), .int (p.2 : Int)]
def dPs (ps : List (Nat × Nat)) : List PyData := ps.map dP
theorem canN : ∀ L : List Nat, PyData.canLayAll0 (dN L) = true
  | [] => by simp [dN, PyData.canLayAll0]
  | n :: L => by
    show PyData.canLayAll0 (.int (n : Int) :: dN L) = true
    simp only [PyData.canLayAll0, PyData.canLay0, canN L, Bool.and_self]
theorem depN : ∀ L : List Nat, PyData.depthAll (dN L) = 0
  | [] => by simp [dN, PyData.depthAll]
  | n :: L => by
    show PyData.depthAll (.int (n : Int) :: dN L) = 0
    simp only [PyData.depthAll, PyData.depth, depN L, Nat.max_self]
theorem canP (p : Nat × Nat) : PyData.canLay0 (dP p) = true := by simp [dP, PyData.canLay0, PyData.canLayAll0]
theorem depP (p : Nat × Nat) : PyData.depth (dP p) = 1 := by simp [dP, PyData.depth, PyData.depthAll]
theorem canPs : ∀ ps : List (Nat × Nat), PyData.canLayAll0 (dPs ps) = true
  | [] => by simp [dPs, PyData.canLayAll0]
  | p :: ps => by
    show PyData.canLayAll0 (dP p :: dPs ps) = true
    simp only [PyData.canLayAll0, canP, canPs ps, Bool.and_self]
theorem depPs : ∀ ps : List (Nat × Nat), PyData.depthAll (dPs ps) ≤ 1
  | [] => by simp [dPs, PyData.depthAll]
  | p :: ps => by
    show PyData.depthAll (dP p :: dPs ps) ≤ 1
    simp only [PyData.depthAll, depP]
    have := depPs ps
    omega
theorem shN (L : List Nat) : SeqAt.shaped (.list (dN L)) = true := by
  unfold SeqAt.shaped
  rw [Bool.and_eq_true]
  exact ⟨by rw [PyData.canLay0]; exact canN L, decide_eq_true (by rw [PyData.depth, depN]; decide)⟩
theorem shNt (L : List Nat) : SeqAt.shaped (.tuple (dN L)) = true := by
  unfold SeqAt.shaped
  rw [Bool.and_eq_true]
  exact ⟨by rw [PyData.canLay0]; exact canN L, decide_eq_true (by rw [PyData.depth, depN]; decide)⟩
theorem shP (p : Nat × Nat) : SeqAt.shaped (dP p) = true := by
  unfold SeqAt.shaped
  rw [Bool.and_eq_true]
  exact ⟨canP p, decide_eq_true (by rw [depP]; decide)⟩
theorem shPs (ps : List (Nat × Nat)) : SeqAt.shaped (.list (dPs ps)) = true := by
  unfold SeqAt.shaped
  rw [Bool.and_eq_true]
  exact ⟨by rw [PyData.canLay0]; exact canPs ps, decide_eq_true (by rw [PyData.depth]; have := depPs ps; omega)⟩
theorem eqN : ∀ L M : List Nat, PyData.eqvAll (dN L) (dN M) = decide (L = M)
  | [], [] => by simp [dN, PyData.eqvAll]
  | [], m :: M => by simp [dN, PyData.eqvAll]
  | n :: L, [] => by simp [dN, PyData.eqvAll]
  | n :: L, m :: M => by
    show PyData.eqvAll (.int (n : Int) :: dN L) (.int (m : Int) :: dN M) = _
    simp only [PyData.eqvAll, PyData.eqv, eqN L M]
    rw [Bool.eq_iff_iff, Bool.and_eq_true, beq_iff_eq, decide_eq_true_eq, decide_eq_true_eq, List.cons.injEq, Int.natCast_inj]
theorem eqP (p q : Nat × Nat) : PyData.eqv (dP p) (dP q) = decide (p = q) := by
  obtain ⟨a, b⟩ := p
  obtain ⟨c, d⟩ := q
  show PyData.eqv (.tuple [.int (a : Int), .int (b : Int)]) (.tuple [.int (c : Int), .int (d : Int)]) = _
  simp only [PyData.eqv, PyData.eqvAll]
  rw [Bool.eq_iff_iff, Bool.and_eq_true, Bool.and_eq_true, beq_iff_eq, beq_iff_eq, decide_eq_true_eq, Prod.mk.injEq, Int.natCast_inj, Int.natCast_inj]
  simp
theorem eqPs : ∀ L M : List (Nat × Nat), PyData.eqvAll (dPs L) (dPs M) = decide (L = M)
  | [], [] => by simp [dPs, PyData.eqvAll]
  | [], m :: M => by simp [dPs, PyData.eqvAll]
  | n :: L, [] => by simp [dPs, PyData.eqvAll]
  | n :: L, m :: M => by
    show PyData.eqvAll (dP n :: dPs L) (dP m :: dPs M) = _
    simp only [PyData.eqvAll, eqPs L M, eqP]
    rw [Bool.eq_iff_iff, Bool.and_eq_true, decide_eq_true_eq, decide_eq_true_eq, decide_eq_true_eq, List.cons.injEq]
theorem eqNl (L M : List Nat) : PyData.eqv (.list (dN L)) (.list (dN M)) = decide (L = M) := by rw [PyData.eqv, eqN]
theorem eqNt (L M : List Nat) : PyData.eqv (.tuple (dN L)) (.tuple (dN M)) = decide (L = M) := by rw [PyData.eqv, eqN]
theorem eqPl (L M : List (Nat × Nat)) : PyData.eqv (.list (dPs L)) (.list (dPs M)) = decide (L = M) := by rw [PyData.eqv, eqPs]
section
variable {K : PySem.W.Frag} {H : Hp}
theorem DpAll_N : ∀ L : List Nat, DpAll K H (Ls L) (dN L)
  | [] => .nil
  | n :: L => .cons (.int _) (DpAll_N L)
theorem Dp_N {a : Addr} {L : List Nat} (h : SqL K H a (Ls L)) : Dp K H (.ref a) (.list (dN L)) := .lst h (DpAll_N L)
theorem Dp_Nt {a : Addr} {L : List Nat} (h : SqT K H a (Ls L)) : Dp K H (.ref a) (.tuple (dN L)) := .tup h (DpAll_N L)
theorem Dp_P {a : Addr} {p : Nat × Nat} (h : SqT K H a [.int (p.1 : Int), .int (p.2 : Int)]) : Dp K H (.ref a) (dP p) := .tup h (.cons (.int _) (.cons (.int _) .nil))
theorem DpAll_Ps : ∀ {es : List Addr} {ps : List (Nat × Nat)}, Prs K H es ps → DpAll K H (es.map V.ref) (dPs ps)
  | [], [], _ => .nil
  | [], p :: ps, x => by have := x.len; cases this
  | e :: es, [], x => by have := x.len; cases this
  | e :: es, p :: ps, x => .cons (Dp_P (x.get 0 e p rfl rfl)) (DpAll_Ps ⟨Nat.succ.inj x.len, fun i e' p' h1 h2 => x.get (i + 1) e' p' h1 h2⟩)
theorem Dp_Ps {a : Addr} {es : List Addr} {ps : List (Nat × Nat)} (h : SqL K H a (es.map V.ref)) (x : Prs K H es ps) : Dp K H (.ref a) (.list (dPs ps)) := .lst h (DpAll_Ps x)
end
end WT
/-! ### the for over enumerate(zip(l1, l2)) as a statement's rule -/
namespace WT
open PySem PySem.Spec PyProof.Rows L2
set_option maxHeartbeats 1000000 in
/-- enumerate(z), z a zip: iter(z) is z itself -/
theorem meets_enumZ {z TI TO : Addr} {f0 : Value} :
    Meets (Builtin.«enumerate.__new__» ⟨[.type "enumerate", .ref z], []⟩) (fun _ R s => IsZip s.heap z TI TO f0 ∧
      R (.ok (.ret (.ref s.heap.objs.size))) { s with heap := s.heap.push { cls := .type "enumerate", data := .fields #[.none, .bool false, .ref z, rawInt 0, .none, .none] } }) :=
  .of_wp fun prog w A R s h => by
    obtain ⟨hp, gs, dr, t0, os⟩ := s
    obtain ⟨hz, h⟩ := h
    have hsub := sub_enumerate
    have itz : ∀ {A' : Around} {E : Value → Shared → Prop} {Q : Value → Shared → Prop}, Q (.ref z) ⟨hp, gs, dr, t0, os⟩ → wpAny (model prog w) A' (pyIter (.ref z)) Q E ⟨hp, gs, dr, t0, os⟩ := fun q => wpAny_pyIter_zip (s := ⟨hp, gs, dr, t0, os⟩) hz q
    wp_walk using itz
    refine wpAny_stack_any fun st => wpAny_pure ?_
    split
    · rename_i c _ _ _ _ _
      cases (c == Value.type "enumerate")
      all_goals
        wp_walk using itz
        exact ⟨_, rfl, h⟩
    · wp_walk using itz
      exact ⟨_, rfl, h⟩
theorem enum_of_zip {prog : Program} {w : World} {A : Around} {E : Value → Shared → Prop} {s : Shared} {z TI TO : Addr} {f0 : Value} {Q : Value → Shared → Prop} (hz : IsZip s.heap z TI TO f0)
    (h : ∀ h', IsEnum h' s.heap.objs.size z 0 .none → (∀ b o, s.heap.get? b = some o → h'.get? b = some o) → Q (.ref s.heap.objs.size) { s with heap := h' }) :
    wpAny (model prog w) A (call (.type "enumerate") [.ref z]) Q E s := by
  refine callType_new F.called_enumerate (by decide) (F.typeCall_enumerate_1 _) (F.newCall_enumerate_1 _) (fun obj => F.args_object_init_2 obj _) F.entry_enumerate_new meets_enumZ ⟨hz, ?_⟩
  have he : IsEnum (s.heap.push { cls := .type "enumerate", data := .fields #[.none, .bool false, .ref z, rawInt 0, .none, .none] }) s.heap.objs.size z 0 .none := Heap.get?_push_size _ rfl
  exact ⟨⟨_, he, rfl⟩, h _ he fun b o q => Heap.get?_push_of_some _ q⟩
/-- the reading: W by the turn, the zip's first tuple (none ahead of the first turn), a measure, the slots, the heap -/
def tForEZ (K : PySem.W.Frag) (ta : TA) (g : TG) (tb : TS) : TS := fun D σ H => ta σ H fun vs H1 => ∃ (a b : Addr) (xs ys : List V), vs = [.ref a, .ref b] ∧ SqL K H1 a xs ∧ SqL K H1 b ys ∧
  ∃ W : Nat → Option Addr → Nat → L2.St → Hp → Prop, (∃ m, W 0 none m σ H1) ∧ ∀ i τ m σ H, W i τ m σ H → (∀ T, τ = some T → ∃ us, H T = some (.tup us)) ∧ SqL K H a xs ∧ SqL K H b ys ∧
    (((xs.length ≤ i ∨ ys.length ≤ i) ∧ D.nx σ H) ∨ ∃ x y, xs[i]? = some x ∧ ys[i]? = some y ∧ ∃ N : Option Addr → L2.St → Hp → Prop, (∀ τ' σ' H', N τ' σ' H' → ∃ m', m' < m ∧ W (i + 1) τ' m' σ' H') ∧
      ∀ T T', H T = none → H T' = none → T ≠ T' → g (.ref T') σ (upd (upd H T (.tup [x, y])) T' (.tup [.int (i : Nat), .ref T])) fun σ2 H2 => tb { D with nx := N (some (τ.getD T)), ct := N (some (τ.getD T)), bk := D.nx } σ2 H2)
section
variable {X : Cx}
theorem ps_forEZ {elts : List Expr} {kk : Nat} {tpos p p2 q q2 pos : Pos} {e1 e2 : Expr} {body : List Stmt} {ta : TA} {g : TG} {tb : TS} (hp : PassesOwn (model X.prog X.w) X.A X.env X.xe) (hc : X.calm = true)
    (hg1 : Gl X "enumerate") (hm1 : X.mg "enumerate" = none) (hg2 : Gl X "zip") (hm2 : X.mg "zip" = none) (ha : PA X [e1, e2] ta) (hg : PG X (.Tuple elts kk tpos) g) (hb : PSs X body tb)
    (hs1 : starEach [e1, e2] X.env = (false, eval e1 X.env) :: starEach [e2] X.env := by rfl) (hs2 : (backTo q2 (starEach [e2] X.env)).any (·.1) = false := by rfl)
    (hs3 : starEach [.Call (.Name "zip" p2) [e1, e2] [] q2] X.env = (false, eval (.Call (.Name "zip" p2) [e1, e2] [] q2) X.env) :: starEach [] X.env := by rfl)
    (hs : ∀ x, foldedSetIterable (.Call (.Name "enumerate" p) [.Call (.Name "zip" p2) [e1, e2] [] q2] [] q) X.env x = pure x := by intro _; rfl) :
    PS X (.For (.Tuple elts kk tpos) (.Call (.Name "enumerate" p) [.Call (.Name "zip" p2) [e1, e2] [] q2] [] q) body [] pos) (tForEZ X.K ta g tb) := by
  refine ⟨fun pins s σ H D I h => ?_⟩
  refine wpAny_For ?_ hs
  refine Call_ (ld_blt I hg1 hm1 boot_enumerate ?_)
  refine PyProof.Rows.callWith_type1 (PyProof.Rows.args_cons ?_ hs3) rfl rfl
  refine Call_ (ld_blt I hg2 hm2 PyProof.Rows.boot_zip (PyProof.Rows.callWith_type1 (thn (ha.run q2 pins s σ H _ I h) fun us s1 ⟨vs, H1, I1, r1, q1⟩ => ?_) hs1 hs2))
  obtain ⟨a, b, xs, ys, rfl, hqx, hqy, W, ⟨m0, w0⟩, turn⟩ := q1
  obtain ⟨u1, u2, rfl, r1, r2⟩ := vals2 r1
  cases r1
  cases r2
  obtain ⟨its, rv, p1, _⟩ := I1.list hqx
  obtain ⟨its2, rv2, p2', _⟩ := I1.list hqy
  have la : a < s1.heap.objs.size := p1.lt
  have lb : b < s1.heap.objs.size := p2'.lt
  refine call_zip_2 p1.isList p2'.isList fun h2 hz hTI hTO hi1 hi2 hsz hk => PyProof.Rows.args_nil ?_
  refine enum_of_zip (s := { s1 with heap := h2 }) hz fun h3 he hk3 => wpAny_pyIter_enum he ?_
  have D0 := PySem.W.ktu_apart s1.heap.objs.size a b la lb
  -- the six objects of the two iterators
  generalize hzz : s1.heap.objs.size + 4 = z at *
  generalize hTIz : s1.heap.objs.size + 2 = TI at *
  generalize hTOz : s1.heap.objs.size + 3 = TO at *
  generalize hi2z : s1.heap.objs.size + 1 = i2 at *
  have he' : IsEnum h3 h2.objs.size z 0 .none := he
  generalize hez : h2.objs.size = e at *
  have kall : ∀ c o, s1.heap.get? c = some o → h3.get? c = some o := fun c o q => hk3 c o (hk c o q)
  have I3 : Inv X pins σ H1 { s1 with heap := h3 } := I1.kept (t' := s1.toks) kall
  have S3 : ZSt h3 z TI TO s1.heap.objs.size i2 a b 0 none := ⟨hk3 _ _ hTI, ⟨_, _, hk3 _ _ hTO⟩, hi1.at fun o q => hk3 _ o q, hi2.at fun o q => hk3 _ o q, .inl ⟨rfl, hk3 _ _ hz⟩⟩
  have enot : e ∉ [z, TI, TO, s1.heap.objs.size, i2] := by
    simp only [List.mem_cons, List.not_mem_nil, or_false, not_or, Addr]
    have e5 := hsz
    refine ⟨?_, ?_, ?_, ?_, ?_⟩ <;> (intro z'; have := hzz; have := hTIz; have := hTOz; have := hi2z; simp only [Addr] at *; omega)
  have fp0 : ∀ c ∈ e :: [z, TI, TO, s1.heap.objs.size, i2], FpOk X pins H1 c := fun c hc => by
    have hle : s1.heap.objs.size ≤ c := by
      have e5 := hsz
      simp only [List.mem_cons, List.not_mem_nil, or_false] at hc
      rcases hc with r | r | r | r | r | r <;> (have := hzz; have := hTIz; have := hTOz; have := hi2z; simp only [Addr] at *; omega)
    exact I1.fpOk hle (I1.hok.fresh hle)
  generalize s1.heap.objs.size = i1 at *
  have stat : ∀ {H' : Hp}, (∀ c ∈ e :: [z, TI, TO, i1, i2], H' c = none) → ∀ c ∈ e :: [z, TI, TO, i1, i2], FpOk X pins H' c := fun hn c hc => ⟨hn c hc, (fp0 c hc).2⟩
  refine codeAny_forLoop_any (fun n s' => ∃ i τ σ' H', Inv X pins σ' H' s' ∧ (∃ old, IsEnum s'.heap e z ((i : Nat) : Int) old) ∧ ZSt s'.heap z TI TO i1 i2 a b i τ ∧ (∀ c ∈ e :: [z, TI, TO, i1, i2], H' c = none) ∧ W i τ n σ' H') ?_ m0
    ⟨0, none, σ, H1, I3, ⟨_, he'⟩, S3, fun c hc => (fp0 c hc).1, w0⟩
  rintro n s3 ⟨i, τ, σ3, H3, J3, ⟨old, en3⟩, S3, fr3, w3⟩
  obtain ⟨hτ, hqx3, hqy3, way⟩ := turn i τ n σ3 H3 w3
  obtain ⟨jts, rvx, px, _⟩ := J3.list hqx3
  obtain ⟨jts2, rvy, py, _⟩ := J3.list hqy3
  have aliveT : ∀ T, τ = some T → ∃ o, s3.heap.get? T = some o := fun T e => by
    obtain ⟨us, hT⟩ := hτ T e
    obtain ⟨_, its', _, o, ho, _⟩ := J3.hok T _ hT
    exact ⟨o, ho⟩
  have tyE : s3.TypeIs (.ref e) "enumerate" := ⟨_, en3, rfl⟩
  rcases way with ⟨hend, qn⟩ | ⟨x, y, hx, hy, N, hN, step⟩
  · -- no item is left
    refine wpAny_passesOwn hp ?_
    unfold pyNext
    refine wpAny_bind (wpAny_attempt (wpAny_callSpecial?_slot (name := Str.ofString "__next__") tyE F.slot_enumerate_next (wpAny_call_entry F.slot_enumerate_next tyE F.entry_enumerate_next ?_ (F.args_enumerate_next_1 _))))
    show wpAny _ _ (field (.ref e) 2 >>= _) _ _ _
    have hnone : jts.toArray[i]? = none ∨ jts2.toArray[i]? = none := by
      have l1 := rvx.length
      have l2 := rvy.length
      rcases hend with q | q
      · exact .inl (by simp; omega)
      · exact .inr (by simp; omega)
    refine wpAny_bind (wpAny_field en3 rfl (x := .ref z) rfl (wpAny_bind (zip_over (A := X.A.in1) (J3.ok.hd hc) D0 S3 aliveT px.isList py.isList hnone fun h4 x4 k4 ⟨o4, g4, c4⟩ => ?_)))
    refine wpAny_bind (wpAny_isInstance (T := "StopIteration") (b := true) ⟨o4, g4, c4⟩ isSubtype_stop ?_)
    exact wpAny_pure (wpAny_execs_nil ⟨σ3, H3, J3.turnedL (t' := s3.toks) (ch := [z, TI, TO, i1, i2]) k4 fun c hc => stat fr3 c (List.mem_cons_of_mem _ hc), qn⟩)
  · -- an item
    obtain ⟨ux, hux, rux⟩ := rvx.get hx
    obtain ⟨uy, huy, ruy⟩ := rvy.get hy
    refine wpAny_passesOwn hp ?_
    unfold pyNext
    refine wpAny_bind (wpAny_attempt (wpAny_callSpecial?_slot (name := Str.ofString "__next__") tyE F.slot_enumerate_next (wpAny_call_entry F.slot_enumerate_next tyE F.entry_enumerate_next ?_ (F.args_enumerate_next_1 _))))
    refine enum_draw (A := X.A.in1) (R := fun v h4 tk => v = .ref s3.heap.objs.size ∧ tk = s3.toks ∧ ZSt h4 z TI TO i1 i2 a b (i + 1) (some (τ.getD s3.heap.objs.size)) ∧ IsPair h4 s3.heap.objs.size ux uy ∧ h4.objs.size = s3.heap.objs.size + 1 ∧
        ∀ c o, c ∉ [z, TI, TO, i1, i2] → s3.heap.get? c = some o → h4.get? c = some o) en3
      (fun Q' k => zip_draw (A := X.A.in1) D0 S3 aliveT px.isList py.isList (x := ux) (y := uy) (by simpa using hux) (by simpa using huy) fun h4 a1 a2 a3 a4 => k _ h4 s3.toks ⟨rfl, rfl, a1, a2, a3, a4⟩)
      (fun v h4 tk r => r.2.2.2.2.2 e _ enot en3) fun v h4 tk h5 r en5 t5 k5 => ?_
    obtain ⟨rfl, rfl, S4, P4, z4, k4⟩ := r
    refine wpAny_pure (wpAny_passesOwn hp (wpAny_letOwnedTupleGo_enum (s := { s3 with heap := h5, toks := s3.toks + 1 }) en5 fun h6 en6 sb6 => ?_))
    have k6 : ∀ c o, c ≠ e → h5.get? c = some o → h6.get? c = some o := fun c o n q => (sb6.2 c n).trans q
    have el : e < s3.heap.objs.size := Heap.lt_size en3
    have fz : ∀ c ∈ e :: [z, TI, TO, i1, i2], c < s3.heap.objs.size := fun c hc => by
      rcases List.mem_cons.mp hc with rfl | hc
      · exact el
      · obtain ⟨o, g, _⟩ := S3.objs c hc
        exact Heap.lt_size g
    -- the zip's tuple
    have new1 : ObjOk X.prog X.w (upd H3 s3.heap.objs.size (.tup [x, y])) h4 s3.heap.objs.size (.tup [x, y]) := ⟨by show 2 ≤ sizeLine; decide, [ux, uy], .cons rux (.cons ruy .nil), ⟨_, P4, rfl, _, rfl⟩⟩
    have J4 : Inv X pins σ3 (upd H3 s3.heap.objs.size (.tup [x, y])) { s3 with heap := h4 } := J3.turnedNew (t' := s3.toks) (ch := [z, TI, TO, i1, i2]) k4 (fun c hc => stat fr3 c (List.mem_cons_of_mem _ hc)) (Nat.le_refl _) new1
    have fr4 : ∀ c ∈ e :: [z, TI, TO, i1, i2], (upd H3 s3.heap.objs.size (.tup [x, y])) c = none := fun c hc => by rw [upd_ne (Nat.ne_of_lt (fz c hc))]; exact fr3 c hc
    -- the enumerate's tuple
    have e4 : e < h4.objs.size := by rw [z4]; exact Nat.lt_succ_of_lt el
    have t6 : h6.get? h4.objs.size = some { cls := .type "tuple", data := .seq #[.int i s3.toks, .ref s3.heap.objs.size] } := k6 _ _ (Nat.ne_of_gt e4) t5
    have new2 : ObjOk X.prog X.w (upd (upd H3 s3.heap.objs.size (.tup [x, y])) h4.objs.size (.tup [.int (i : Nat), .ref s3.heap.objs.size])) h6 h4.objs.size (.tup [.int (i : Nat), .ref s3.heap.objs.size]) :=
      ⟨by show 2 ≤ sizeLine; decide, [.int i s3.toks, .ref s3.heap.objs.size], .cons ⟨_, rfl⟩ (.cons rfl .nil), ⟨_, t6, rfl, _, rfl⟩⟩
    have J6 : Inv X pins σ3 (upd (upd H3 s3.heap.objs.size (.tup [x, y])) h4.objs.size (.tup [.int (i : Nat), .ref s3.heap.objs.size])) { s3 with heap := h6, toks := s3.toks + 1 } :=
      J4.turnedNew (t' := s3.toks + 1) (ch := [e]) (fun c o hc q => k6 c o (fun r => hc (List.mem_singleton.mpr r)) (k5 c o (fun r => hc (List.mem_singleton.mpr r)) q)) (fun c hc => stat fr4 c (by rw [List.mem_singleton.mp hc]; exact List.mem_cons_self ..)) (Nat.le_refl _) new2
    have fr6 : ∀ c ∈ e :: [z, TI, TO, i1, i2], (upd (upd H3 s3.heap.objs.size (.tup [x, y])) h4.objs.size (.tup [.int (i : Nat), .ref s3.heap.objs.size])) c = none := fun c hc => by
      rw [upd_ne (Nat.ne_of_lt (by rw [z4]; exact Nat.lt_succ_of_lt (fz c hc)))]
      exact fr4 c hc
    have S6 : ZSt h6 z TI TO i1 i2 a b (i + 1) (some (τ.getD s3.heap.objs.size)) := S4.on fun c hc o q => by
      have ne : c ≠ e := fun z => enot (by rw [← z]; exact hc)
      exact k6 c o ne (k5 c o ne q)
    have ob6 : ∀ c ∈ e :: [z, TI, TO, i1, i2], ∃ o, h6.get? c = some o ∧ ∀ v, o.data ≠ .cell v := fun c hc => by
      rcases List.mem_cons.mp hc with rfl | hc
      · exact ⟨_, en6, fun v hv => by cases hv⟩
      · exact S6.objs c hc
    have J7 := J6.pinned (stat fr6) ob6
    have nT : H3 s3.heap.objs.size = none := J3.hok.fresh (Nat.le_refl _)
    have nT' : H3 h4.objs.size = none := J3.hok.fresh (by rw [z4]; exact Nat.le_succ _)
    refine wpAny_passesOwn hp (thn (hg.run _ _ σ3 _ (.ref h4.objs.size) _ _ J7 rfl (step _ _ nT nT' (by rw [z4]; exact Nat.ne_of_lt (Nat.lt_succ_self _)))) fun _ s8 ⟨σ8, H8, J8, q8⟩ => ?_)
    refine wpAny_passesOwn hp (thn (hb.run _ s8 σ8 H8 _ J8 q8) fun f s9 q9 => ?_)
    have again : ∀ {σ9 : L2.St} {H9 : Hp}, Inv X (pins ++ pinsAt (e :: [z, TI, TO, i1, i2]) h6) σ9 H9 s9 → N (some (τ.getD s3.heap.objs.size)) σ9 H9 → ∃ m, m < n ∧ ∃ i τ σ' H', Inv X pins σ' H' s9 ∧ (∃ old, IsEnum s9.heap e z ((i : Nat) : Int) old) ∧ ZSt s9.heap z TI TO i1 i2 a b i τ ∧
        (∀ c ∈ e :: [z, TI, TO, i1, i2], H' c = none) ∧ W i τ m σ' H' := fun {σ9 H9} J9 n9 => by
      obtain ⟨m', hm, w9⟩ := hN _ σ9 H9 n9
      have same : ∀ c ∈ e :: [z, TI, TO, i1, i2], ∀ o, h6.get? c = some o → s9.heap.get? c = some o ∧ H9 c = none := fun c hc o q =>
        let z := J9.pin (c, o) (List.mem_append_right _ (List.mem_append_right _ (mem_pinsAt hc q)))
        ⟨z.1, z.2.1⟩
      have en7 : IsEnum h6 e z ((i + 1 : Nat) : Int) (.ref s3.heap.objs.size) := by
        rw [show ((i + 1 : Nat) : Int) = (i : Int) + 1 by omega]
        exact en6
      refine ⟨m', hm, i + 1, _, σ9, H9, J9.unpinned, ⟨_, (same e (List.mem_cons_self ..) _ en7).1⟩, S6.on fun c hc o q => (same c (List.mem_cons_of_mem _ hc) o q).1, fun c hc => ?_, w9⟩
      · obtain ⟨o, g, _⟩ := ob6 c hc
        exact (same c hc o g).2
    cases f with
    | next => obtain ⟨σ9, H9, J9, n9⟩ := q9; exact again J9 n9
    | cont => obtain ⟨σ9, H9, J9, n9⟩ := q9; exact again J9 n9
    | brk => obtain ⟨σ9, H9, J9, q9⟩ := q9; exact ⟨σ9, H9, J9.unpinned, q9⟩
    | ret v => obtain ⟨x9, σ9, H9, J9, r9, q9⟩ := q9; exact ⟨x9, σ9, H9, J9.unpinned, r9, q9⟩
end
end WT
/-! ### maps: difference (of scripts that lead alike), idle_turns -/
namespace WT
open PySem PySem.Spec PyProof.Rows L2
theorem Ls_snoc0 (l : List Nat) (i : Nat) : Ls l ++ [V.int (0 + (i : Int))] = Ls (l ++ [i]) := by
  unfold Ls
  rw [List.map_append, Int.zero_add]
  rfl
def rmv (s : List Trn) (i : Nat) : List Trn := s.take i ++ s.drop (i + 1)
theorem rmv_len {s : List Trn} {i : Nat} : (rmv s i).length ≤ s.length := by
  unfold rmv
  rw [List.length_append, List.length_take, List.length_drop]
  omega
def idleOf (L : List Nat) (r : Nat) (s : List Trn) : List Nat := (List.range s.length).filter fun i => decide (endsOf L r (rmv s i) = endsOf L r s)
section
variable {P : Program} {w : World} {K : PySem.W.Frag} {mg : Str → Option Value} {base : Heap} {f : Addr} {fd : FuncData}
def spDifference (K : PySem.W.Frag) : Sp := fun vs H Q _ => ∃ (a c d : Addr) (L : List Nat) (r : Nat) (s1 s2 : List Trn), vs = [.ref a, .int (r : Int), .ref c, .ref d] ∧ SqT K H a (Ls L) ∧ SqT K H c (Ts s1) ∧ SqT K H d (Ts s2) ∧ Lens L ∧ r < L.length ∧ s1.length ≤ 200 ∧ s2.length ≤ 200 ∧
  endsOf L r s1 = endsOf L r s2 ∧ ∀ H', Same H H' → Q .non H'
theorem ok_difference (G : Gb K mg) (F : Std K mg "difference" s_difference [] f fd) (D_need_all : Def P w K mg base "need_all" 4 pr_need_all [] (spNeedAll K)) (D_need_script_1 : Def P w K mg base "need_script" 3 pr_need_script [.int 200] (spNeedScript K))
    (D_ends_of : Def P w K mg base "ends_of" 4 pr_ends_of [] (spEndsOf K)) : Def P w K mg base "difference" 5 pr_difference [] (spDifference K) := by
  refine Def.of F sc_difference (fun _ _ _ _ _ _ us hl => match us, hl with | [_, _, _, _], _ => rfl) (fun vs H Q E h => ?_) (fun cdv A outer s H vs Q E hr h => ?_)
  · obtain ⟨a, c, d, L, r, s1, s2, rfl, _⟩ := h
    rfl
  · obtain ⟨a, c, d, L, r, s1, s2, rfl, hT, hS1, hS2, l, h1, l1, l2, heq, q⟩ := h
    have lp := l.at_pos h1
    refine ⟨_, (pss_cons (ps_expr (pe_callD D_need_all (hr.mono (by decide)) (by rfl) (pa_cons (pv 0) (pa_cons (pv 1) (pa_cons (pv 2) pa_nil)))))
      (pss_cons (ps_expr (pe_callD D_need_script_1 (hr.mono (by decide)) (by rfl) (pa_cons (pv 3) pa_nil)))
      (pss_cons (ps_forEZ PassesOwn.never rfl (by rfl) G.enumerate_ (by rfl) G.zip_ (pa_cons (pe_callD D_ends_of (hr.mono (by decide)) (by rfl) (pa_cons (pv 0) (pa_cons (pv 1) (pa_cons (pv 2) pa_nil)))) (pa_cons (pe_callD D_ends_of (hr.mono (by decide)) (by rfl) (pa_cons (pv 0) (pa_cons (pv 1) (pa_cons (pv 3) pa_nil)))) pa_nil)) (pg_tup rfl (pgs_cons (pg_name (i := 4) sc_difference.nd rfl (Or.inl rfl)) (pgs_cons (pg_name (i := 5) sc_difference.nd rfl (Or.inl rfl)) pgs_nil))) (pss_one (ps_if (pt_cmpR (op_neD hr.units) (pe_ix ix_tup (pv 5) pe_int (fun _ _ => rfl)) (pe_ix ix_tup (pv 5) pe_int (fun _ _ => rfl)) (nomark _)) (pss_one (ps_ret (pv 4))) pss_nil)))
      (pss_one (ps_ret pe_non))))), ?_⟩
    refine ⟨_, rfl, _, rfl, _, rfl, a, c, L, r, s1, rfl, hT, hS1, l, h1, l1, fun H2 z2 => ?_⟩
    refine ⟨_, rfl, d, s2, 200, rfl, z2.seqT hS2, by omega, by omega, fun H3 z3 => ?_⟩
    have z23 := z2.trans z3
    refine ⟨_, rfl, _, rfl, _, rfl, a, c, L, r, s1, rfl, z23.seqT hT, z23.seqT hS1, l, h1, fun E1 es1 H4 z4 n4 hE1 hp1 => ?_⟩
    have z234 := z23.trans z4
    refine ⟨_, rfl, _, rfl, _, rfl, a, d, L, r, s2, rfl, z234.seqT hT, z234.seqT hS2, l, h1, fun E2 es2 H5 z5 n5 hE2 hp2 => ?_⟩
    have hE1' := z5 _ _ hE1
    have hp1' := hp1.same z5
    refine ⟨E1, E2, _, _, rfl, SqL.of hE1', SqL.of hE2, fun i τ m σ H => ∃ x4 x5, σ = [some (.ref a), some (.int (r : Int)), some (.ref c), some (.ref d), x4, x5] ∧ Same H5 H ∧ (∀ T, τ = some T → ∃ us, H T = some (.tup us)) ∧ m = at0 L r - i ∧ i ≤ at0 L r, ⟨_, none, none, rfl, Same.refl _, fun _ z => (by cases z), rfl, Nat.zero_le _⟩, ?_⟩
    rintro i τ m σ H6 ⟨x4, x5, rfl, z6, hτ, rfl, hi⟩
    refine ⟨hτ, z6.seq (SqL.of hE1'), z6.seq (SqL.of hE2), ?_⟩
    by_cases hlt : i < at0 L r
    · right
      obtain ⟨e1, g1, t1⟩ := hp1'.at_ (endsOf_get (L := L) (r := r) (s := s1) hlt)
      obtain ⟨e2, g2, t2⟩ := hp2.at_ (endsOf_get (L := L) (r := r) (s := s2) hlt)
      have eqi : run L (r, i) s1 = run L (r, i) s2 := by
        have g := endsOf_get (L := L) (r := r) (s := s1) hlt
        rw [heq, endsOf_get hlt] at g
        exact (Option.some.inj g).symm
      refine ⟨.ref e1, .ref e2, by rw [List.getElem?_map, g1]; rfl, by rw [List.getElem?_map, g2]; rfl, fun τ' σ' H' => ∃ x4 x5, σ' = [some (.ref a), some (.int (r : Int)), some (.ref c), some (.ref d), x4, x5] ∧ Same H5 H' ∧ (∀ T, τ' = some T → ∃ us, H' T = some (.tup us)),
        fun τ' σ' H' ⟨y4, y5, e, z, t⟩ => ⟨at0 L r - (i + 1), by omega, y4, y5, e, z, t, rfl, hlt⟩, fun T T' nT nT' nTT => ?_⟩
      have z7 : Same H6 (upd H6 T (.tup [.ref e1, .ref e2])) := same_upd nT
      have nT7 : (upd H6 T (.tup [.ref e1, .ref e2])) T' = none := by rw [upd_ne (Ne.symm nTT)]; exact nT'
      have z8 : Same (upd H6 T (.tup [.ref e1, .ref e2])) (upd (upd H6 T (.tup [.ref e1, .ref e2])) T' (.tup [.int (i : Nat), .ref T])) := same_upd nT7
      have z78 := (z6.trans z7).trans z8
      refine ⟨T', _, rfl, SqT.of upd_same, rfl, _, _, rfl, _, _, rfl, rfl, ?_⟩
      have hT8 := z8 _ _ (upd_same (H := H6) (a := T) (o := .tup [.ref e1, .ref e2]))
      refine ⟨_, rfl, T, _, 0, _, rfl, rfl, SqT.of hT8, atI_nat (j := 0) rfl, _, rfl, T, _, 1, _, rfl, rfl, SqT.of hT8, atI_nat (j := 1) rfl, ?_⟩
      refine ⟨dP (run L (r, i) s1), dP (run L (r, i) s2), Dp_P (z78.seqT t1), Dp_P (z78.seqT t2), shP _, shP _, _, rfl, iteN ?_ ?_⟩
      · rw [eqP, eqi, decide_eq_true rfl]
        rfl
      · refine ⟨_, _, rfl, z78, fun T2 e => ?_⟩
        cases e
        cases hτ' : τ with
        | none => exact ⟨_, hT8⟩
        | some T0 =>
          obtain ⟨us, hu⟩ := hτ T0 hτ'
          exact ⟨us, z8 _ _ (z7 _ _ hu)⟩
    · left
      refine ⟨.inl (by rw [List.length_map, hp1.len, endsOf_len]; omega), ?_⟩
      exact q H6 ((z234.trans z5).trans z6)
def spIdleTurns (K : PySem.W.Frag) : Sp := fun vs H Q _ => ∃ (a c : Addr) (L : List Nat) (r : Nat) (sc : List Trn), vs = [.ref a, .int (r : Int), .ref c] ∧ SqT K H a (Ls L) ∧ SqT K H c (Ts sc) ∧ Lens L ∧ r < L.length ∧ sc.length ≤ 200 ∧
  ∀ (D : Addr) (H' : Hp), Same H H' → H D = none → H' D = some (.lst (Ls (idleOf L r sc))) → Q (.ref D) H'
theorem ok_idle_turns (G : Gb K mg) (F : Std K mg "idle_turns" s_idle_turns [] f fd) (D_need_all : Def P w K mg base "need_all" 4 pr_need_all [] (spNeedAll K)) (D_ends_of : Def P w K mg base "ends_of" 4 pr_ends_of [] (spEndsOf K)) : Def P w K mg base "idle_turns" 5 pr_idle_turns [] (spIdleTurns K) := by
  refine Def.of F sc_idle_turns (fun _ _ _ _ _ _ us hl => match us, hl with | [_, _, _], _ => rfl) (fun vs H Q E h => ?_) (fun cdv A outer s H vs Q E hr h => ?_)
  · obtain ⟨a, c, L, r, sc, rfl, _⟩ := h
    rfl
  · obtain ⟨a, c, L, r, sc, rfl, hT, hS, l, h1, h2, q⟩ := h
    have lp := l.at_pos h1
    refine ⟨_, (pss_cons (ps_expr (pe_callD D_need_all (hr.mono (by decide)) (by rfl) (pa_cons (pv 0) (pa_cons (pv 1) (pa_cons (pv 2) pa_nil)))))
      (pss_cons (ps_par (i := 3) (j := 4) (by rfl) sc_idle_turns.nd rfl rfl (by decide) rfl rfl (pa_cons (pe_callD D_ends_of (hr.mono (by decide)) (by rfl) (pa_cons (pv 0) (pa_cons (pv 1) (pa_cons (pv 2) pa_nil)))) (pa_cons (pe_lst pa_nil) pa_nil)) (by rfl))
      (pss_cons (ps_for PassesOwn.never rfl (pi_range1 (by rfl) G.range_ (pa_cons (pe_callB (len_seqK K rfl) (by rfl) G.len_ (by decide +kernel) (pa_cons (pv 2) pa_nil)) pa_nil)) (pg_name (i := 5) sc_idle_turns.nd rfl (Or.inl rfl)) (pss_one (ps_if (pt_cmpR (op_eqDK K rfl hr.units) (pe_callD D_ends_of (hr.mono (by decide)) (by rfl) (pa_cons (pv 0) (pa_cons (pv 1) (pa_cons (pe_op (op_catK K rfl) (pe_slice (sl_tupK K rfl) (pv 2) po_none (po_some (pv 5))) (pe_slice (sl_tupK K rfl) (pv 2) (po_some (pe_op op_add (pv 5) pe_int)) po_none)) pa_nil)))) (pv 3) (nomark _)) (pss_one (ps_expr (pe_bm PySem.F.plainAttrs_list PySem.F.slot_list_append PySem.F.type_list_append mt_append (pv 4) (pa_cons (pv 5) pa_nil)))) pss_nil)))
      (pss_one (ps_ret (pv 4)))))), ?_⟩
    refine ⟨_, rfl, _, rfl, _, rfl, a, c, L, r, sc, rfl, hT, hS, l, h1, h2, fun H2 z2 => ?_⟩
    refine ⟨_, rfl, _, rfl, _, rfl, a, c, L, r, sc, rfl, z2.seqT hT, z2.seqT hS, l, h1, fun E es H3 z3 nE hE hp => ?_⟩
    refine ⟨Nat.zero_le _, fun D nD => ?_⟩
    refine ⟨_, _, rfl, ?_⟩
    have z23 := z2.trans z3
    have z4 : Same H3 (upd H3 D (.lst [])) := same_upd nD
    refine ⟨_, rfl, c, _, rfl, .inr (z4.seqT (z23.seqT hS)), _, rfl, by rw [len_Ts]; omega, by rw [len_Ts]; omega, ?_⟩
    have ln : ((((Ts sc).length : Nat) : Int)).toNat = sc.length := by rw [Int.toNat_natCast, len_Ts]
    refine for_it (walk_range (lo := 0) (n := ((((Ts sc).length : Nat) : Int)).toNat)) (fun i σ H => ∃ x, σ = [some (.ref a), some (.int (r : Int)), some (.ref c), some (.ref E), some (.ref D), x] ∧ Same H3 H ∧ H D = some (.lst (Ls ((List.range i).filter fun i => decide (endsOf L r (rmv sc i) = endsOf L r sc)))))
      ⟨none, rfl, z4, upd_same⟩ (fun _ _ _ _ _ => trivial) ?_ ?_
    · rintro i x σ H4 H5 hi ⟨x5, rfl, z5, hd⟩ ⟨rfl, rfl⟩
      rw [ln] at hi
      have zT : SqT K H5 c (Ts sc) := z5.seqT (z23.seqT hS)
      refine ⟨_, rfl, _, rfl, ?_⟩
      refine ⟨.ref c, rfl, _, rfl, _, rfl, c, _, rfl, zT, fun p1 H6 z6 hp1 => ?_⟩
      refine ⟨.ref c, rfl, _, rfl, _, _, rfl, rfl, _, rfl, c, _, rfl, z6.seqT zT, fun p2 H7 z7 hp2 => ?_⟩
      have c1 : cutV (Ts sc) none (some (0 + (i : Int))) = Ts (sc.take i) := by rw [Int.zero_add, cut_to, Ts_take]
      have c2 : cutV (Ts sc) (some (0 + (i : Int) + 1)) none = Ts (sc.drop (i + 1)) := by
        rw [Int.zero_add, show (i : Int) + 1 = ((i + 1 : Nat) : Int) by omega, cut_from, Ts_drop]
      rw [c1] at hp1
      rw [c2] at hp2
      refine ⟨p1, p2, _, _, rfl, rfl, z7.seqT hp1, hp2, ?_, fun p3 H8 z8 hp3 => ?_⟩
      · rw [len_Ts, len_Ts, List.length_take, List.length_drop]
        exact Nat.le_of_lt (small1000 (by omega))
      rw [Ts_append] at hp3
      have z68 := (z6.trans z7).trans z8
      have z58 := z5.trans z68
      refine ⟨a, p3, L, r, rmv sc i, rfl, z58.seqT (z23.seqT hT), hp3, l, h1, fun E9 es9 H9 z9 nE9 hE9 hp9 => ?_⟩
      refine ⟨_, rfl, .list (dPs (endsOf L r (rmv sc i))), .list (dPs (endsOf L r sc)), Dp_Ps (SqL.of hE9) hp9, Dp_Ps (SqL.of (z9 _ _ (z58 _ _ hE))) ((hp.same z58).same z9), shPs _, shPs _, _, rfl, ?_⟩
      rw [eqPl]
      have hd9 := z9 _ _ (z68 _ _ hd)
      refine iteB (fun e => ?_) (fun e => ?_)
      · refine ⟨_, rfl, .inl ⟨rfl, _, SqL.of hd9⟩, _, rfl, D, _, _, rfl, rfl, hd9, ?_, _, rfl, (z58.trans z9).updN nD, ?_⟩
        · rw [len_Ls]
          exact small1000 (Nat.le_trans (List.length_filter_le _ _) (by rw [List.length_range]; omega))
        · rw [upd_same, filter_range_succ, if_pos e]
          exact congrArg (fun z => some (HO.lst z)) (Ls_snoc0 _ i)
      · refine ⟨_, rfl, z58.trans z9, ?_⟩
        rw [hd9, filter_range_succ, if_neg (by rw [e]; exact Bool.false_ne_true), List.append_nil]
    · rintro σ H4 ⟨x5, rfl, z5, hd⟩
      rw [ln] at hd
      exact ⟨_, rfl, q D H4 (z23.trans z5) (z23.free nD) hd⟩
end
end WT
/-! ### the law's helpers: draws, bags -/
namespace WT
open PySem PySem.Spec PyProof.Rows L2
/-- the shape of a bag's list -/
def BagO (o : HO) : Prop := ∃ (D : Addr) (n : Int), o = .lst [.ref D, .int n]
/-- a bag stands at p: 400 numbers that are not negative, a counter -/
def Bag (H : Hp) (p : Addr) : Prop := ∃ (D : Addr) (ds : List Int) (n : Int), H p = some (.lst [.ref D, .int n]) ∧ H D = some (.lst (ds.map V.int)) ∧ ds.length = 400 ∧ ∀ x ∈ ds, 0 ≤ x
/-- all but the bags' counters is as it was -/
structure Ky (H H' : Hp) : Prop where
  keep : ∀ b o, H b = some o → ¬ BagO o → H' b = some o
  bag : ∀ b, Bag H b → Bag H' b
theorem ints_no_bag {ds : List Int} : ¬ BagO (.lst (ds.map V.int)) := by
  rintro ⟨D, n, e⟩
  have e := HO.lst.inj e
  cases ds with
  | nil => cases e
  | cons x ds => cases e
theorem Ls_no_bag {L : List Nat} : ¬ BagO (.lst (Ls L)) := by
  rintro ⟨D, n, e⟩
  have e := HO.lst.inj e
  cases L with
  | nil => cases e
  | cons x ds => cases e
theorem refs_no_bag {es : List Addr} : ¬ BagO (.lst (es.map V.ref)) := by
  rintro ⟨D, n, e⟩
  have e := HO.lst.inj e
  match es with
  | [] => cases e
  | [x] => cases e
  | [x, y] => cases e
  | x :: y :: z :: r => cases e
theorem tup_no_bag {xs : List V} : ¬ BagO (.tup xs) := fun ⟨_, _, e⟩ => by cases e
theorem frz_no_bag {o : Obj} {u : HO} : ¬ BagO (.frz o u) := fun ⟨_, _, e⟩ => by cases e
theorem _root_.L2.Same.bag {H H' : Hp} (s : Same H H') {b : Addr} (B : Bag H b) : Bag H' b := by
  obtain ⟨D, ds, n, h1, h2, h3⟩ := B
  exact ⟨D, ds, n, s _ _ h1, s _ _ h2, h3⟩
theorem _root_.L2.Same.ky {H H' : Hp} (s : Same H H') : Ky H H' := ⟨fun b o h _ => s b o h, fun _ B => s.bag B⟩
theorem Ky.refl (H : Hp) : Ky H H := (Same.refl H).ky
theorem Ky.trans {H H1 H2 : Hp} (a : Ky H H1) (b : Ky H1 H2) : Ky H H2 := ⟨fun c o h n => b.keep c o (a.keep c o h n) n, fun c B => b.bag c (a.bag c B)⟩
theorem Ky.seqT {K : PySem.W.Frag} {H H' : Hp} {a : Addr} {xs : List V} (k : Ky H H') (h : SqT K H a xs) : SqT K H' a xs := by
  exact h.imp (fun z => z.imp (k.keep _ _ · tup_no_bag) fun ⟨o, z⟩ => ⟨o, k.keep _ _ z frz_no_bag⟩) id
/-- a list that is not a bag's -/
theorem Ky.seqL {K : PySem.W.Frag} {H H' : Hp} {a : Addr} {xs : List V} (k : Ky H H') (n : ¬ BagO (.lst xs)) (h : SqL K H a xs) : SqL K H' a xs := by
  exact h.imp (fun z => z.imp (k.keep _ _ · n) fun ⟨o, z⟩ => ⟨o, k.keep _ _ z frz_no_bag⟩) id
/-- the counter is set on -/
theorem ky_count {H : Hp} {p D : Addr} {ds : List Int} {n m : Int} (h1 : H p = some (.lst [.ref D, .int n])) (h2 : H D = some (.lst (ds.map V.int))) (h3 : ds.length = 400) (h4 : ∀ x ∈ ds, 0 ≤ x) : Ky H (upd H p (.lst [.ref D, .int m])) ∧ (upd H p (.lst [.ref D, .int m])) D = some (.lst (ds.map V.int)) := by
  have hne : ∀ b (es : List Int), H b = some (.lst (es.map V.int)) → b ≠ p := fun b es hb e => by
    rw [e, h1] at hb
    exact ints_no_bag (ds := es) ⟨D, n, (Option.some.inj hb).symm⟩
  have hD : (upd H p (.lst [.ref D, .int m])) D = some (.lst (ds.map V.int)) := by rw [upd_ne (hne D ds h2)]; exact h2
  refine ⟨⟨fun b o hb nb => ?_, fun b B => ?_⟩, hD⟩
  · by_cases e : b = p
    · rw [e, h1] at hb
      exact absurd ⟨D, n, (Option.some.inj hb).symm⟩ nb
    · rw [upd_ne e]; exact hb
  · by_cases e : b = p
    · rw [e]; exact ⟨D, ds, m, upd_same, hD, h3, h4⟩
    · obtain ⟨D', ds', n', g1, g2, g3⟩ := B
      exact ⟨D', ds', n', by rw [upd_ne e]; exact g1, by rw [upd_ne (hne D' ds' g2)]; exact g2, g3⟩
section
variable {P : Program} {w : World} {K : PySem.W.Frag} {mg : Str → Option Value} {base : Heap} {f : Addr} {fd : FuncData}
def spCellAt (K : PySem.W.Frag) : Sp := fun vs H Q _ => ∃ (a : Addr) (ns : List Int) (k : Nat), vs = [.ref a, .int (k : Int)] ∧ SqL K H a (ns.map V.int) ∧ ∀ v : Int, Q (.int v) H
theorem ok_cell_at (G : Gb K mg) (F : Std K mg "_law_cell_at" s__law_cell_at [] f fd) : Def P w K mg base "_law_cell_at" 1 pr__law_cell_at [] (spCellAt K) := by
  refine Def.of F sc__law_cell_at (fun _ _ _ _ _ _ us hl => match us, hl with | [_, _], _ => rfl) (fun vs H Q E h => ?_) (fun cdv A outer s H vs Q E hr h => ?_)
  · obtain ⟨a, ns, k, rfl, _⟩ := h
    rfl
  · obtain ⟨a, ns, k, rfl, hL, q⟩ := h
    refine ⟨_, (pss_cons (ps_if (pt_cmpR op_lt (pv 1) (pe_callB (len_seqK K rfl) (by rfl) G.len_ (by decide +kernel) (pa_cons (pv 0) pa_nil)) (nomark _)) (pss_one (ps_ret (pe_ix (ix_listK K rfl) (pv 0) (pv 1) (fun _ _ => rfl)))) pss_nil)
      (pss_one (ps_ret pe_int))), ?_⟩
    refine ⟨_, rfl, _, rfl, a, _, rfl, .inl hL, _, _, rfl, rfl, _, rfl, iteB (fun e => ?_) (fun e => q 0)⟩
    have e := of_decide_eq_true e
    have hk : k < ns.length := by rw [List.length_map] at e; omega
    refine ⟨_, rfl, _, rfl, a, _, _, .int ns[k], rfl, rfl, hL, atI_nat ?_, q _⟩
    rw [List.getElem?_map, List.getElem?_eq_getElem hk]
    rfl
def spDraws : Sp := fun vs H Q _ => ∃ c : Int, vs = [.int c, .int 400, .int 1000] ∧ ∀ (D : Addr) (H' : Hp) (ds : List Int), Same H H' → H D = none → H' D = some (.lst (ds.map V.int)) → ds.length = 400 → (∀ x ∈ ds, 0 ≤ x) → Q (.ref D) H'
theorem snoc_int (ds : List Int) (x : Int) : ds.map V.int ++ [V.int x] = (ds ++ [x]).map V.int := by rw [List.map_append]; rfl
theorem ok_draws (G : Gb K mg) (F : Std K mg "_law_draws" s__law_draws [] f fd) : Def P w K mg base "_law_draws" 1 pr__law_draws [] spDraws := by
  refine Def.of F sc__law_draws (fun _ _ _ _ _ _ us hl => match us, hl with | [_, _, _], _ => rfl) (fun vs H Q E h => ?_) (fun cdv A outer s H vs Q E hr h => ?_)
  · obtain ⟨c, rfl, _⟩ := h
    rfl
  · obtain ⟨c, rfl, q⟩ := h
    refine ⟨_, (pss_cons (ps_set (i := 3) sc__law_draws.nd rfl (Or.inl rfl) (pe_lst pa_nil))
      (pss_cons (ps_set (i := 4) sc__law_draws.nd rfl (Or.inl rfl) (pe_op op_mul (pv 0) (pe_callTy call_int1 (by rfl) G.int_ (by decide +kernel) (pa_cons (pe_cmpR op_ge (pv 0) (pe_op op_pow pe_int pe_int) (nomark _)) pa_nil))))
      (pss_cons (ps_set (i := 5) sc__law_draws.nd rfl (Or.inl rfl) (pe_op op_mod (pv 0) pe_int))
      (pss_cons (ps_for PassesOwn.never rfl (pi_range1 (by rfl) G.range_ (pa_cons (pe_op op_add (pv 1) pe_int) pa_nil)) (pg_name (i := 6) sc__law_draws.nd rfl (Or.inl rfl)) (pss_cons (ps_set (i := 5) sc__law_draws.nd rfl (Or.inl rfl) (pe_op op_mod (pe_op op_add (pe_op op_add (pe_op op_add (pe_op op_mul (pv 5) (pv 5)) (pe_op op_mul pe_int (pv 5))) (pv 6)) pe_int) pe_int))
      (pss_one (ps_if (PW.pt (pw_and (pt_cmpR op_gt (pv 6) pe_int (nomark _)) (pw_and1 (pt_cmpR op_gt (pv 4) pe_int (nomark _))))) (pss_cons (ps_expr (pe_bm PySem.F.plainAttrs_list PySem.F.slot_list_append PySem.F.type_list_append mt_append (pv 3) (pa_cons (pe_op op_mod (pv 4) (pv 2)) pa_nil)))
      (pss_one (ps_set (i := 4) sc__law_draws.nd rfl (Or.inl rfl) (pe_op op_fdiv (pv 4) (pv 2))))) (pss_one (ps_if (pt_cmpR op_gt (pv 6) pe_int (nomark _)) (pss_one (ps_expr (pe_bm PySem.F.plainAttrs_list PySem.F.slot_list_append PySem.F.type_list_append mt_append (pv 3) (pa_cons (pe_op op_mod (pe_op op_fdiv (pv 5) pe_int) (pv 2)) pa_nil)))) pss_nil))))))
      (pss_one (ps_ret (pv 3))))))), ?_⟩
    refine ⟨Nat.zero_le _, fun D nD => ?_⟩
    refine ⟨_, rfl, _, rfl, _, _, rfl, rfl, ⟨by decide, by decide, by decide⟩, _, _, rfl, rfl, .inr ⟨_, rfl, ?_⟩⟩
    refine ⟨_, _, rfl, rfl, .inr (by split <;> exact ⟨by decide, by decide⟩), ?_⟩
    refine ⟨_, rfl, _, _, rfl, rfl, (by show (0 : Int) < 2305843009213693951; decide), ?_⟩
    refine ⟨_, rfl, _, _, rfl, rfl, _, rfl, by decide, by decide, ?_⟩
    have m0 : (0 : Int) < 2305843009213693951 := by decide
    refine for_it (walk_range (lo := 0) (n := 403)) (fun i σ H2 => ∃ (rest st : Int) (z : Option V) (ds : List Int), σ = [some (.int c), some (.int 400), some (.int 1000), some (.ref D), some (.int rest), some (.int st), z] ∧ Same H H2 ∧ H2 D = some (.lst (ds.map V.int)) ∧
        ds.length = i - 3 ∧ (∀ x ∈ ds, 0 ≤ x) ∧ 0 ≤ st ∧ st < 2305843009213693951)
      ⟨_, _, none, [], rfl, same_upd nD, upd_same, rfl, fun x h => by simp at h, Int.emod_nonneg _ (by decide), Int.emod_lt_of_pos _ m0⟩ (fun _ _ _ _ _ => trivial) ?_ ?_
    · rintro i x σ H2 H3 hi ⟨rest, st, z, ds, rfl, s2, hd, hl, hp, hs0, hs1⟩ ⟨rfl, rfl⟩
      have b64 : -(2 ^ 64) < st ∧ st < 2 ^ 64 := ⟨by omega, by omega⟩
      refine ⟨_, rfl, _, rfl, _, _, rfl, rfl, .inl b64, _, rfl, _, _, rfl, rfl, .inl ⟨by decide, by decide⟩, _, _, rfl, rfl, _, rfl, _, _, rfl, rfl, _, _, rfl, rfl, _, _, rfl, rfl, m0, ?_⟩
      have t0 : 0 ≤ (st * st + 48271 * st + (0 + (i : Int)) + 1) % 2305843009213693951 := Int.emod_nonneg _ (by decide)
      have t1 : (st * st + 48271 * st + (0 + (i : Int)) + 1) % 2305843009213693951 < 2305843009213693951 := Int.emod_lt_of_pos _ m0
      have room : (ds.map V.int).length < sizeLine := by rw [List.length_map]; exact small1000 (by omega)
      refine ⟨_, rfl, _, _, rfl, rfl, _, rfl, iteB (fun e => ?_) (fun e => ?_)⟩
      · have e := of_decide_eq_true e
        refine ⟨_, rfl, _, _, rfl, rfl, _, rfl, iteB (fun e2 => ?_) (fun e2 => ?_)⟩
        · refine ⟨_, rfl, .inl ⟨rfl, _, SqL.of hd⟩, _, rfl, _, rfl, _, _, rfl, rfl, (by show (0 : Int) < 1000; decide), D, _, _, rfl, rfl, hd, room, ?_⟩
          refine ⟨_, rfl, _, rfl, _, _, rfl, rfl, ⟨by decide, by decide⟩, ?_⟩
          refine ⟨_, _, _, ds ++ [rest % 1000], rfl, s2.updN nD, by rw [upd_same, snoc_int], by rw [List.length_append]; show ds.length + 1 = _; omega, fun x hx => ?_, t0, t1⟩
          rcases List.mem_append.mp hx with hx | hx
          · exact hp x hx
          · rw [List.mem_singleton.mp hx]; exact Int.emod_nonneg _ (by decide)
        · refine ⟨_, rfl, _, _, rfl, rfl, _, rfl, iteC (decide_eq_true e) ?_⟩
          refine ⟨_, rfl, .inl ⟨rfl, _, SqL.of hd⟩, _, rfl, _, _, rfl, rfl, ⟨by decide, by decide⟩, _, rfl, _, _, rfl, rfl, (by show (0 : Int) < 1000; decide), D, _, _, rfl, rfl, hd, room, ?_⟩
          refine ⟨_, _, _, ds ++ [(st * st + 48271 * st + (0 + (i : Int)) + 1) % 2305843009213693951 / 4096 % 1000], rfl, s2.updN nD, by rw [upd_same, snoc_int], by rw [List.length_append]; show ds.length + 1 = _; omega, fun x hx => ?_, t0, t1⟩
          rcases List.mem_append.mp hx with hx | hx
          · exact hp x hx
          · rw [List.mem_singleton.mp hx]; exact Int.emod_nonneg _ (by decide)
      · have e := of_decide_eq_false e
        refine ⟨_, rfl, _, _, rfl, rfl, _, rfl, iteN (decide_eq_false e) ?_⟩
        exact ⟨_, _, _, ds, rfl, s2, hd, by omega, hp, t0, t1⟩
    · rintro σ H2 ⟨rest, st, z, ds, rfl, s2, hd, hl, hp, _⟩
      exact ⟨_, rfl, q D H2 ds s2 nD hd hl hp⟩
def spBag (K : PySem.W.Frag) : Sp := fun vs H Q _ => ∃ (a : Addr) (ns : List Int) (k : Nat), vs = [.ref a, .int (k : Int)] ∧ SqL K H a (ns.map V.int) ∧ ∀ (p : Addr) (H' : Hp), Same H H' → Bag H' p → Q (.ref p) H'
theorem ok_bag (G : Gb K mg) (F : Std K mg "_law_bag" s__law_bag [] f fd) (D__law_cell_at : Def P w K mg base "_law_cell_at" 1 pr__law_cell_at [] (spCellAt K)) (D__law_draws : Def P w K mg base "_law_draws" 1 pr__law_draws [] spDraws) : Def P w K mg base "_law_bag" 2 pr__law_bag [] (spBag K) := by
  refine Def.of F sc__law_bag (fun _ _ _ _ _ _ us hl => match us, hl with | [_, _], _ => rfl) (fun vs H Q E h => ?_) (fun cdv A outer s H vs Q E hr h => ?_)
  · obtain ⟨a, ns, k, rfl, _⟩ := h
    rfl
  · obtain ⟨a, ns, k, rfl, hL, q⟩ := h
    refine ⟨_, (pss_one (ps_ret (pe_lst (pa_cons (pe_callD D__law_draws (hr.mono (by decide)) (by rfl) (pa_cons (pe_callD D__law_cell_at (hr.mono (by decide)) (by rfl) (pa_cons (pv 0) (pa_cons (pv 1) pa_nil))) (pa_cons pe_int (pa_cons pe_int pa_nil)))) (pa_cons pe_int pa_nil))))), ?_⟩
    refine ⟨_, rfl, _, rfl, a, ns, k, rfl, hL, fun v => ?_⟩
    refine ⟨v, rfl, fun D H2 ds s2 nD hd hl hp => ?_⟩
    refine ⟨by show 2 ≤ sizeLine; decide, fun p np => ?_⟩
    exact q p _ (s2.trans (same_upd np)) ⟨D, ds, 0, upd_same, (same_upd np) _ _ hd, hl, hp⟩
def spBags (K : PySem.W.Frag) : Sp := fun vs H Q _ => ∃ (a : Addr) (ns : List Int) (m : Nat), vs = [.ref a, .int (m : Int)] ∧ SqL K H a (ns.map V.int) ∧ m ≤ 1000 ∧ ∀ (D : Addr) (bs : List Addr) (H' : Hp), Same H H' → H' D = some (.lst (bs.map V.ref)) → (∀ b ∈ bs, Bag H' b) → Q (.ref D) H'
theorem ok_bags (G : Gb K mg) (F : Std K mg "_law_bags" s__law_bags [] f fd) (D__law_bag : Def P w K mg base "_law_bag" 2 pr__law_bag [] (spBag K)) : Def P w K mg base "_law_bags" 3 pr__law_bags [] (spBags K) := by
  refine Def.of F sc__law_bags (fun _ _ _ _ _ _ us hl => match us, hl with | [_, _], _ => rfl) (fun vs H Q E h => ?_) (fun cdv A outer s H vs Q E hr h => ?_)
  · obtain ⟨a, ns, m, rfl, _⟩ := h
    rfl
  · obtain ⟨a, ns, m, rfl, hL, hm, q⟩ := h
    refine ⟨_, (pss_one (ps_ret (pe_lc (own := [("_law_k", 2)]) (g := (gName 2)) (tt := tYes) rfl sc__law_bags.nd (pi_range1 (by rfl) G.range_ (pa_cons (pe_callB (call_max2 rfl) (by rfl) G.max_ (by decide +kernel) (pa_cons pe_int (pa_cons (pe_callB (call_min2 rfl) (by rfl) G.min_ (by decide +kernel) (pa_cons (pv 1) (pa_cons (pe_callB (len_seqK K rfl) (by rfl) G.len_ (by decide +kernel) (pa_cons (pv 0) pa_nil)) pa_nil))) pa_nil))) pa_nil)) (blkOk_by (own := [("_law_k", 2)]) (N := nm__law_bags) (sc := defScope s__law_bags) (by decide +kernel)) (fun _ _ _ _ _ => (pg_name (i := 2) sc__law_bags.nd rfl (Or.inl rfl))) (fun _ _ _ _ _ => pts_nil) (fun _ _ _ _ _ => (pe_callD D__law_bag (hr.mono (by decide)) (by rfl) (pa_cons (pv 0) (pa_cons (pv 2) pa_nil))))))), ?_⟩
    refine ⟨_, rfl, _, rfl, a, _, rfl, .inl hL, _, _, rfl, _, _, rfl, ?_⟩
    have hj : ∃ j : Nat, j ≤ 1000 ∧ (if (if ((ns.map V.int).length : Int) < (m : Int) then ((ns.map V.int).length : Int) else (m : Int)) > (1 : Int) then (if ((ns.map V.int).length : Int) < (m : Int) then ((ns.map V.int).length : Int) else (m : Int)) else (1 : Int)) = (j : Int) := by
      refine ⟨max 1 (min m ns.length), by omega, ?_⟩
      rw [List.length_map]
      repeat' split
      all_goals omega
    obtain ⟨j, hj1, hj2⟩ := hj
    refine ⟨_, rfl, by rw [hj2]; omega, by rw [hj2]; omega, ?_⟩
    rw [hj2, Int.toNat_natCast]
    intro D nD
    refine lc_it (walk_range (lo := 0) (n := j)) (fun i H2 => Same H H2 ∧ ∃ bs : List Addr, H2 D = some (.lst (bs.map V.ref)) ∧ bs.length = i ∧ ∀ b ∈ bs, Bag H2 b) ⟨same_upd nD, [], upd_same, rfl, fun b h => by simp at h⟩ (fun _ _ _ _ => trivial) ?_ ?_
    · rintro i x H2 H3 hi ⟨s2, bs, hd, hl, hb⟩ ⟨rfl, rfl⟩
      refine ⟨rfl, yesT ?_⟩
      refine ⟨_, rfl, _, rfl, a, ns, i, congrArg (fun z => [V.ref a, V.int z]) (Int.zero_add (i : Int)), s2.seq hL, fun p H4 s4 hp => ?_⟩
      have hd4 := s4 _ _ hd
      have up : ∀ b, Bag H4 b → Bag (upd H4 D (.lst (bs.map V.ref ++ [V.ref p]))) b := fun b B => by
        obtain ⟨E, ds, n, g1, g2, g3⟩ := B
        refine ⟨E, ds, n, ?_, ?_, g3⟩
        · rw [upd_ne (fun e => ?_)]
          · exact g1
          · rw [e, hd4] at g1
            exact refs_no_bag (es := bs) ⟨E, n, Option.some.inj g1⟩
        · rw [upd_ne (fun e => ?_)]
          · exact g2
          · rw [e, hd4] at g2
            have := HO.lst.inj (Option.some.inj g2)
            have l := congrArg List.length this
            rw [List.length_map, List.length_map, g3.1] at l
            cases bs with
            | nil => cases l
            | cons b0 bs => cases ds with
              | nil => cases this
              | cons d0 ds => cases this
      refine ⟨_, hd4, ?_, (s2.trans s4).updN nD, bs ++ [p], ?_, ?_, fun b h => up b ?_⟩
      · rw [List.length_map, hl]; exact small1000 (by omega)
      · rw [upd_same, List.map_append]; rfl
      · rw [List.length_append, hl]; rfl
      · rcases List.mem_append.mp h with h | h
        · exact s4.bag (hb b h)
        · rw [List.mem_singleton.mp h]; exact hp
    · rintro H2 ⟨s2, bs, hd, hl, hb⟩
      exact q D bs H2 s2 hd hb
def spTake : Sp := fun vs H Q _ => ∃ (p : Addr) (m : Nat), vs = [.ref p, .int (m : Int)] ∧ Bag H p ∧ 1 ≤ m ∧ ∀ (v : Nat) (H' : Hp), Ky H H' → v < m → Q (.int (v : Int)) H'
theorem ok_take (G : Gb K mg) (F : Std K mg "_law_take" s__law_take [] f fd) : Def P w K mg base "_law_take" 1 pr__law_take [] spTake := by
  refine Def.of F sc__law_take (fun _ _ _ _ _ _ us hl => match us, hl with | [_, _], _ => rfl) (fun vs H Q E h => ?_) (fun cdv A outer s H vs Q E hr h => ?_)
  · obtain ⟨p, m, rfl, _⟩ := h
    rfl
  · obtain ⟨p, m, rfl, B, hm, q⟩ := h
    obtain ⟨D, ds, n, g1, g2, g3, g4⟩ := B
    refine ⟨_, (pss_cons (ps_asg (pe_op op_add (pe_ix (ix_listK K rfl) (pv 0) pe_int (fun _ _ => rfl)) pe_int) (pg_sub (pv 0) pe_int set_list))
      (pss_one (ps_ret (pe_op op_mod (pe_ix (ix_listK K rfl) (pe_ix (ix_listK K rfl) (pv 0) pe_int (fun _ _ => rfl)) (pe_op op_mod (pe_ix (ix_listK K rfl) (pv 0) pe_int (fun _ _ => rfl)) (pe_callB (len_seqK K rfl) (by rfl) G.len_ (by decide +kernel) (pa_cons (pe_ix (ix_listK K rfl) (pv 0) pe_int (fun _ _ => rfl)) pa_nil))) (fun _ _ => rfl)) (pv 1))))), ?_⟩
    refine ⟨_, rfl, p, _, 1, .int n, rfl, rfl, SqL.of g1, atI_nat (j := 1) rfl, _, _, rfl, rfl, _, rfl, p, _, 1, 1, rfl, rfl, g1, rfl, ?_⟩
    obtain ⟨k1, k2⟩ := ky_count (m := n + 1) g1 g2 g3 g4
    have g5 : (upd H p (.lst [.ref D, .int (n + 1)])) p = some (.lst [.ref D, .int (n + 1)]) := upd_same
    refine ⟨_, rfl, p, _, 0, .ref D, rfl, rfl, SqL.of g5, atI_nat (j := 0) rfl, _, rfl, p, _, 1, .int (n + 1), rfl, rfl, SqL.of g5, atI_nat (j := 1) rfl, _, rfl, p, _, 0, .ref D, rfl, rfl, SqL.of g5, atI_nat (j := 0) rfl, D, _, rfl, .inl (SqL.of k2), _, _, rfl, rfl, ?_, ?_⟩
    · rw [List.length_map, g3]; show (0 : Int) < 400; decide
    · have hx : ∃ j : Nat, j < 400 ∧ (n + 1) % (((ds.map V.int).length : Nat) : Int) = (j : Int) := by
        rw [List.length_map, g3]
        have a0 := Int.emod_nonneg (n + 1) (show (400 : Int) ≠ 0 by decide)
        have a1 := Int.emod_lt_of_pos (n + 1) (show (0 : Int) < 400 by decide)
        exact ⟨((n + 1) % 400).toNat, by omega, by show (n + 1) % 400 = _; omega⟩
      obtain ⟨j, hj, ej⟩ := hx
      have hj' : j < ds.length := by omega
      refine ⟨D, _, _, .int ds[j], rfl, rfl, SqL.of k2, ?_, _, rfl, _, _, rfl, rfl, by omega, ?_⟩
      · rw [ej]
        refine atI_nat ?_
        rw [List.getElem?_map, List.getElem?_eq_getElem hj']
        rfl
      · have p0 : (0 : Int) ≤ ds[j] % (m : Int) := Int.emod_nonneg _ (by omega)
        have p1 : ds[j] % (m : Int) < (m : Int) := Int.emod_lt_of_pos _ (by omega)
        have e : ds[j] % (m : Int) = (((ds[j] % (m : Int)).toNat : Nat) : Int) := by omega
        show Q (.int (ds[j] % (m : Int))) _
        rw [e]
        exact q _ _ k1 (by omega)
end
end WT
/-! ### the law's helpers: lengths, scripts -/
namespace WT
open PySem PySem.Spec PyProof.Rows L2
theorem Ls_snoc (l : List Nat) (n : Nat) : Ls l ++ [V.int (n : Int)] = Ls (l ++ [n]) := by
  unfold Ls
  rw [List.map_append]
  rfl
section
variable {P : Program} {w : World} {K : PySem.W.Frag} {mg : Str → Option Value} {base : Heap} {f : Addr} {fd : FuncData}
def spLengths (K : PySem.W.Frag) : Sp := fun vs H Q _ => ∃ (p : Addr) (R M : Nat), vs = [.ref p, .int (R : Int), .int (M : Int)] ∧ Bag H p ∧ 1 ≤ R ∧ R ≤ 12 ∧ 1 ≤ M ∧ M ≤ 31 ∧
  ∀ (a : Addr) (H' : Hp) (L : List Nat), Ky H H' → Lens L → L.length ≤ R → (∀ n ∈ L, n ≤ M) → SqT K H' a (Ls L) → Q (.ref a) H'
theorem ok_lengths (G : Gb K mg) (F : Std K mg "_law_lengths" s__law_lengths [] f fd) (D__law_take : Def P w K mg base "_law_take" 1 pr__law_take [] spTake) : Def P w K mg base "_law_lengths" 2 pr__law_lengths [] (spLengths K) := by
  refine Def.of F sc__law_lengths (fun _ _ _ _ _ _ us hl => match us, hl with | [_, _, _], _ => rfl) (fun vs H Q E h => ?_) (fun cdv A outer s H vs Q E hr h => ?_)
  · obtain ⟨p, R, M, rfl, _⟩ := h
    rfl
  · obtain ⟨p, R, M, rfl, B, hR1, hR2, hM1, hM2, q⟩ := h
    refine ⟨_, (pss_cons (ps_par (i := 3) (j := 4) (by rfl) sc__law_lengths.nd rfl rfl (by decide) rfl rfl (pa_cons (pe_op op_add pe_int (pe_callD D__law_take (hr.mono (by decide)) (by rfl) (pa_cons (pv 0) (pa_cons (pv 2) pa_nil)))) (pa_cons (pe_callD D__law_take (hr.mono (by decide)) (by rfl) (pa_cons (pv 0) (pa_cons pe_int pa_nil))) pa_nil)) (by rfl))
      (pss_cons (ps_set (i := 5) sc__law_lengths.nd rfl (Or.inl rfl) (pe_tup pa_nil))
      (pss_cons (ps_for PassesOwn.never rfl (pi_range1 (by rfl) G.range_ (pa_cons (pe_op op_add pe_int (pe_callD D__law_take (hr.mono (by decide)) (by rfl) (pa_cons (pv 0) (pa_cons (pv 1) pa_nil)))) pa_nil)) (pg_name (i := 6) sc__law_lengths.nd rfl (Or.inl rfl)) (pss_cons (ps_set (i := 7) sc__law_lengths.nd rfl (Or.inl rfl) (pe_callB (call_max2 rfl) (by rfl) G.max_ (by decide +kernel) (pa_cons pe_int (pa_cons (pe_callB (call_min2 rfl) (by rfl) G.min_ (by decide +kernel) (pa_cons (pv 2) (pa_cons (pe_op op_sub (pe_op op_add (pv 3) (pe_callD D__law_take (hr.mono (by decide)) (by rfl) (pa_cons (pv 0) (pa_cons pe_int pa_nil)))) pe_int) pa_nil))) pa_nil))))
      (pss_cons (ps_set (i := 8) sc__law_lengths.nd rfl (Or.inl rfl) (pe_op op_add pe_int (pe_callD D__law_take (hr.mono (by decide)) (by rfl) (pa_cons (pv 0) (pa_cons (pv 2) pa_nil)))))
      (pss_one (ps_set (i := 5) sc__law_lengths.nd rfl (Or.inl rfl) (pe_op (op_catK K rfl) (pv 5) (pe_tup (pa_cons (pe_ix (ix_listK K rfl) (pe_lst (pa_cons (pv 8) (pa_cons (pv 7) (pa_cons (pv 8) (pa_cons (pv 3) pa_nil))))) (pv 4) (fun _ _ => rfl)) pa_nil))))))))
      (pss_one (ps_ret (pv 5)))))), ?_⟩
    refine ⟨_, rfl, _, rfl, p, M, rfl, B, hM1, fun v0 H1 k1 hv0 => ?_⟩
    refine ⟨_, _, rfl, rfl, _, rfl, p, 4, rfl, k1.bag _ B, by decide, fun wy H2 k2 hwy => ?_⟩
    refine ⟨_, _, rfl, ?_⟩
    refine ⟨Nat.zero_le _, fun t0 n0 => ?_⟩
    have z0 : Same H2 (upd H2 t0 (.tup [])) := same_upd n0
    have kB := (k1.trans k2).trans z0.ky
    refine ⟨_, rfl, _, rfl, p, R, rfl, kB.bag _ B, hR1, fun v1 H3 k3 hv1 => ?_⟩
    have e1 : ∀ v : Nat, (1 : Int) + (v : Int) = ((1 + v : Nat) : Int) := fun v => by omega
    refine ⟨_, _, rfl, rfl, _, rfl, by omega, by omega, ?_⟩
    rw [e1 v1, Int.toNat_natCast]
    refine for_it (walk_range (lo := 0) (n := 1 + v1)) (fun i σ H4 => ∃ (x7 x8 x9 : Option V) (a : Addr) (L : List Nat), σ = [some (.ref p), some (.int (R : Int)), some (.int (M : Int)), some (.int ((1 + v0 : Nat) : Int)), some (.int (wy : Int)), some (.ref a), x7, x8, x9] ∧
        Ky H H4 ∧ SqT K H4 a (Ls L) ∧ L.length = i ∧ ∀ n ∈ L, 1 ≤ n ∧ n ≤ M)
      ⟨none, none, none, t0, [], congrArg (fun z => [some (V.ref p), some (V.int (R : Int)), some (V.int (M : Int)), some (V.int z), some (V.int (wy : Int)), some (V.ref t0), none, none, none]) (e1 v0), kB.trans k3, (k3.seqT (SqT.of upd_same)), rfl, fun n h => by simp at h⟩ (fun _ _ _ _ _ => trivial) ?_ ?_
    · rintro i x σ H4 H5 hi ⟨x7, x8, x9, a, L, rfl, k4, hL, hl, hn⟩ ⟨rfl, rfl⟩
      refine ⟨_, rfl, _, rfl, _, rfl, p, 3, rfl, k4.bag _ B, by decide, fun v2 H6 k6 hv2 => ?_⟩
      refine ⟨_, _, rfl, rfl, _, _, rfl, rfl, _, _, rfl, _, _, rfl, ?_⟩
      have k46 := k4.trans k6
      have hnear : ∃ nr : Nat, 1 ≤ nr ∧ nr ≤ M ∧ (if (if ((1 + v0 : Nat) : Int) + (v2 : Int) - 1 < (M : Int) then ((1 + v0 : Nat) : Int) + (v2 : Int) - 1 else (M : Int)) > (1 : Int) then (if ((1 + v0 : Nat) : Int) + (v2 : Int) - 1 < (M : Int) then ((1 + v0 : Nat) : Int) + (v2 : Int) - 1 else (M : Int)) else (1 : Int)) = (nr : Int) := by
        refine ⟨max 1 (min M (v0 + v2)), by omega, by omega, ?_⟩
        repeat' split
        all_goals omega
      obtain ⟨nr, hr1, hr2, er⟩ := hnear
      refine ⟨_, rfl, _, rfl, p, M, rfl, k46.bag _ B, hM1, fun v3 H7 k7 hv3 => ?_⟩
      refine ⟨_, _, rfl, rfl, ?_⟩
      have k47 := k46.trans k7
      rw [er]
      refine ⟨.ref a, rfl, _, rfl, _, rfl, _, rfl, _, rfl, by show 4 ≤ sizeLine; decide, fun tl nl => ?_⟩
      have z8 : Same H7 (upd H7 tl (.lst [.int (1 + (v3 : Int)), .int (nr : Int), .int (1 + (v3 : Int)), .int ((1 + v0 : Nat) : Int)])) := same_upd nl
      have hpick : ∃ m : Nat, 1 ≤ m ∧ m ≤ M ∧ ([.int (1 + (v3 : Int)), .int (nr : Int), .int (1 + (v3 : Int)), .int ((1 + v0 : Nat) : Int)] : List V)[wy]? = some (.int (m : Int)) := by
        match wy, hwy with
        | 0, _ => exact ⟨1 + v3, by omega, by omega, by rw [← e1 v3]; rfl⟩
        | 1, _ => exact ⟨nr, hr1, hr2, rfl⟩
        | 2, _ => exact ⟨1 + v3, by omega, by omega, by rw [← e1 v3]; rfl⟩
        | 3, _ => exact ⟨1 + v0, by omega, by omega, rfl⟩
      obtain ⟨m, hm1, hm2, em⟩ := hpick
      refine ⟨_, rfl, tl, _, _, .int (m : Int), rfl, rfl, SqL.of upd_same, atI_nat em, by show 1 ≤ sizeLine; decide, fun t1 n1 => ?_⟩
      have z9 := same_upd (o := .tup [.int (m : Int)]) n1
      have k9 := (k47.trans z8.ky).trans z9.ky
      refine ⟨a, t1, _, _, rfl, rfl, z9.seqT (z8.seqT (k7.seqT (k6.seqT hL))), SqT.of upd_same, ?_, fun t2 H9 z10 h10 => ?_⟩
      · rw [len_Ls]; exact Nat.le_of_lt (small31 (by show L.length + 1 ≤ 31; omega))
      · rw [Ls_snoc] at h10
        refine ⟨_, _, _, t2, L ++ [m], rfl, k9.trans z10.ky, h10, by rw [List.length_append, hl]; rfl, fun n h => ?_⟩
        rcases List.mem_append.mp h with h | h
        · exact hn n h
        · rw [List.mem_singleton.mp h]; exact ⟨hm1, hm2⟩
    · rintro σ H4 ⟨x7, x8, x9, a, L, rfl, k4, hL, hl, hn⟩
      exact ⟨_, rfl, q a H4 L k4 ⟨by omega, by omega, fun n h => ⟨(hn n h).1, Nat.le_trans (hn n h).2 hM2⟩⟩ (by omega) (fun n h => (hn n h).2) hL⟩
def Trn.of : Nat → Trn
  | 0 => .cp
  | 1 => .cm
  | 2 => .rp
  | _ => .rm
def spTurns : Sp := fun vs H Q _ => vs = [] ∧ ∀ (D : Addr) (H' : Hp), Same H H' → H' D = some (.lst [.str "C+", .str "C-", .str "R+", .str "R-"]) → Q (.ref D) H'
theorem ok_turns (G : Gb K mg) (F : Std K mg "_law_turns" s__law_turns [] f fd) : Def P w K mg base "_law_turns" 1 pr__law_turns [] spTurns := by
  refine Def.of F sc__law_turns (fun _ _ _ _ _ _ us hl => match us, hl with | [], _ => rfl) (fun vs H Q E h => ?_) (fun cdv A outer s H vs Q E hr h => ?_)
  · obtain ⟨rfl, _⟩ := h
    rfl
  · obtain ⟨rfl, q⟩ := h
    refine ⟨_, (pss_one (ps_ret (pe_lst (pa_cons pe_str (pa_cons pe_str (pa_cons pe_str (pa_cons pe_str pa_nil))))))), ?_⟩
    exact ⟨by show 4 ≤ sizeLine; decide, fun D nD => q D _ (same_upd nD) upd_same⟩
theorem turn_at : ∀ {v : Nat}, v < 4 → ([.str "C+", .str "C-", .str "R+", .str "R-"] : List V)[v]? = some (.str (Trn.of v).s)
  | 0, _ => rfl
  | 1, _ => rfl
  | 2, _ => rfl
  | 3, _ => rfl
theorem Ts_rep (t : Trn) (k : Nat) : (List.replicate k [V.str t.s]).flatten = Ts (List.replicate k t) := by
  induction k with
  | zero => rfl
  | succ k ih =>
    rw [List.replicate_succ, List.flatten_cons, ih]
    rfl
def spScript (K : PySem.W.Frag) : Sp := fun vs H Q _ => ∃ (p : Addr) (M : Nat), vs = [.ref p, .int (M : Int)] ∧ Bag H p ∧ M ≤ 200 ∧ ∀ (a : Addr) (H' : Hp) (sc : List Trn), Ky H H' → sc.length ≤ M → SqT K H' a (Ts sc) → Q (.ref a) H'
theorem ok_script (G : Gb K mg) (F : Std K mg "_law_script" s__law_script [] f fd) (D__law_take : Def P w K mg base "_law_take" 1 pr__law_take [] spTake) (D__law_turns : Def P w K mg base "_law_turns" 1 pr__law_turns [] spTurns) : Def P w K mg base "_law_script" 2 pr__law_script [] (spScript K) := by
  refine Def.of F sc__law_script (fun _ _ _ _ _ _ us hl => match us, hl with | [_, _], _ => rfl) (fun vs H Q E h => ?_) (fun cdv A outer s H vs Q E hr h => ?_)
  · obtain ⟨p, M, rfl, _⟩ := h
    rfl
  · obtain ⟨p, M, rfl, B, hM, q⟩ := h
    refine ⟨_, (pss_cons (ps_set (i := 2) sc__law_script.nd rfl (Or.inl rfl) (pe_tup pa_nil))
      (pss_cons (ps_for PassesOwn.never rfl (pi_range1 (by rfl) G.range_ (pa_cons (pe_callD D__law_take (hr.mono (by decide)) (by rfl) (pa_cons (pv 0) (pa_cons (pe_op op_add (pv 1) pe_int) pa_nil))) pa_nil)) (pg_name (i := 3) sc__law_script.nd rfl (Or.inl rfl)) (pss_one (ps_set (i := 2) sc__law_script.nd rfl (Or.inl rfl) (pe_op (op_catK K rfl) (pv 2) (pe_op (op_repK K rfl) (pe_tup (pa_cons (pe_ix (ix_listK K rfl) (pe_callD0 D__law_turns (hr.mono (by decide)) (by rfl)) (pe_callD D__law_take (hr.mono (by decide)) (by rfl) (pa_cons (pv 0) (pa_cons pe_int pa_nil))) (fun _ _ => rfl)) pa_nil)) (pe_op op_add pe_int (pe_callD D__law_take (hr.mono (by decide)) (by rfl) (pa_cons (pv 0) (pa_cons pe_int pa_nil)))))))))
      (pss_one (ps_ret (pe_slice (sl_tupK K rfl) (pv 2) po_none (po_some (pv 1))))))), ?_⟩
    refine ⟨Nat.zero_le _, fun t0 n0 => ?_⟩
    have z0 : Same H (upd H t0 (.tup [])) := same_upd n0
    refine ⟨_, rfl, _, rfl, _, _, rfl, rfl, p, M + 1, by rfl, z0.ky.bag _ B, by omega, fun v0 H1 k1 hv0 => ?_⟩
    refine ⟨_, rfl, by omega, by omega, ?_⟩
    rw [Int.toNat_natCast]
    have kB := z0.ky.trans k1
    refine for_it (walk_range (lo := 0) (n := v0)) (fun i σ H2 => ∃ (x3 : Option V) (a : Addr) (sc : List Trn), σ = [some (.ref p), some (.int (M : Int)), some (.ref a), x3] ∧ Ky H H2 ∧ SqT K H2 a (Ts sc) ∧ sc.length ≤ 3 * i)
      ⟨none, t0, [], rfl, kB, k1.seqT (SqT.of upd_same), Nat.le_refl _⟩ (fun _ _ _ _ _ => trivial) ?_ ?_
    · rintro i x σ H2 H3 hi ⟨x3, a, sc, rfl, k2, hS, hl⟩ ⟨rfl, rfl⟩
      refine ⟨.ref a, rfl, rfl, fun tl H4 z4 h4 => ?_⟩
      have k4 := k2.trans z4.ky
      refine ⟨_, rfl, p, 4, rfl, k4.bag _ B, by decide, fun v1 H5 k5 hv1 => ?_⟩
      have k45 := k4.trans k5
      refine ⟨tl, _, _, _, rfl, rfl, k5.seqL (fun ⟨_, _, e⟩ => by cases e) (SqL.of h4), atI_nat (turn_at hv1), by show 1 ≤ sizeLine; decide, fun t1 n1 => ?_⟩
      have z6 := same_upd (o := .tup [.str (Trn.of v1).s]) n1
      have k6 := k45.trans z6.ky
      refine ⟨_, rfl, p, 3, rfl, k6.bag _ B, by decide, fun v2 H7 k7 hv2 => ?_⟩
      have k67 := k6.trans k7
      refine ⟨_, _, rfl, rfl, t1, _, _, rfl, rfl, k7.seqT (SqT.of upd_same), (fun e => nomatch e), by omega, by omega, by show 1 ≤ 1000; decide, fun t2 H8 z8 h8 => ?_⟩
      rw [Ts_rep] at h8
      have eh : ((1 : Int) + (v2 : Int)).toNat = 1 + v2 := by omega
      rw [eh] at h8
      refine ⟨a, t2, _, _, rfl, rfl, z8.seqT (k7.seqT (z6.seqT (k5.seqT (z4.seqT hS)))), h8, ?_, fun t3 H9 z9 h9 => ?_⟩
      · rw [len_Ts, len_Ts, List.length_replicate]
        exact Nat.le_of_lt (small1000 (by omega))
      · rw [Ts_append] at h9
        refine ⟨_, t3, _, rfl, (k67.trans z8.ky).trans z9.ky, h9, ?_⟩
        rw [List.length_append, List.length_replicate]
        omega
    · rintro σ H2 ⟨x3, a, sc, rfl, k2, hS, hl⟩
      refine ⟨.ref a, rfl, _, rfl, _, rfl, a, _, rfl, hS, fun t H3 z3 h3 => ?_⟩
      rw [cut_to, Ts_take] at h3
      exact q t H3 (sc.take M) (k2.trans z3.ky) (by rw [List.length_take]; omega) h3
end
end WT
/-! ### the law's helpers: rising_around, is_arc -/
namespace WT
open PySem PySem.Spec PyProof.Rows L2
theorem bnot_t {b : Bool} (h : (!b) = true) : b = false := by
  cases b
  · rfl
  · cases h
theorem bnot_f {b : Bool} (h : (!b) = false) : b = true := by
  cases b
  · cases h
  · rfl
theorem filt_snoc : ∀ (l : List Nat) (p x : Nat), filt p (l ++ [x]) = filt p l ++ (if x = l.getLast?.getD p then [] else [x])
  | [], p, x => rfl
  | y :: l, p, x => by
    have e : (y :: l).getLast?.getD p = l.getLast?.getD y := by
      rw [List.getLast?_cons]
      rfl
    rw [e]
    show (if y = p then filt y (l ++ [x]) else y :: filt y (l ++ [x])) = (if y = p then filt y l else y :: filt y l) ++ _
    rw [filt_snoc l y x]
    split <;> rfl
theorem desc_snoc : ∀ (l : List Nat) (p x : Nat), desc p (l ++ [x]) = desc p l + (if x < l.getLast?.getD p then 1 else 0)
  | [], p, x => by
    show (if x < p then 1 else 0) + 0 = 0 + (if x < p then 1 else 0)
    omega
  | y :: l, p, x => by
    have e : (y :: l).getLast?.getD p = l.getLast?.getD y := by
      rw [List.getLast?_cons]
      rfl
    rw [e]
    show (if y < p then 1 else 0) + desc y (l ++ [x]) = (if y < p then 1 else 0) + desc y l + _
    rw [desc_snoc l y x]
    omega
/-- the item ahead of place i, around -/
theorem around_at {c : List Nat} {i : Nat} (hi : i < c.length) : atI (Ls c) ((i : Int) - 1) = some (.int (((c.take i).getLast?.getD (c.getLast?.getD 0) : Nat) : Int)) := by
  cases i with
  | zero =>
    have hne : c ≠ [] := fun e => by rw [e] at hi; cases hi
    have e1 : Ls c = Ls c.dropLast ++ [.int ((c.getLast hne : Nat) : Int)] := by
      rw [Ls_snoc, List.dropLast_concat_getLast]
    rw [e1, List.take_zero, List.getLast?_eq_some_getLast hne]
    exact atI_last _ _
  | succ j =>
    have hj : j < c.length := by omega
    have e : ((j + 1 : Nat) : Int) - 1 = (j : Int) := by omega
    rw [e, List.take_add_one, List.getElem?_eq_getElem hj]
    refine atI_nat ?_
    unfold Ls
    rw [List.getElem?_map, List.getElem?_eq_getElem hj]
    show some (V.int (c[j] : Int)) = some (V.int (((List.take j c ++ [c[j]]).getLast?.getD _ : Nat) : Int))
    rw [List.getLast?_concat]
    rfl
theorem filt_len : ∀ (l : List Nat) (p : Nat), (filt p l).length ≤ l.length
  | [], _ => Nat.zero_le _
  | y :: l, p => by
    show (if y = p then filt y l else y :: filt y l).length ≤ l.length + 1
    have := filt_len l y
    split
    · omega
    · rw [List.length_cons]; omega
theorem ints_of_Ls (L : List Nat) : Ls L = (L.map fun n : Nat => (n : Int)).map V.int := by
  unfold Ls
  rw [List.map_map]
  rfl
theorem dec_intN (a b : Nat) : decide (V.int (a : Int) = V.int (b : Int)) = decide (a = b) := decide_eq_decide.mpr ⟨fun h => Int.natCast_inj.mp (V.int.inj h), fun h => by rw [h]⟩
theorem inV_Ls (n : Nat) (l : List Nat) : inV (.int (n : Int)) (Ls l) = decide (n ∈ l) := by
  unfold inV Ls
  rw [List.any_map, Bool.eq_iff_iff, List.any_eq_true, decide_eq_true_eq]
  constructor
  · rintro ⟨x, hx, e⟩
    have e : eqV (.int (x : Int)) (.int (n : Int)) = true := e
    have : (x : Int) = n := by simpa [eqV] using e
    have : x = n := Int.natCast_inj.mp this
    rw [← this]; exact hx
  · intro h
    refine ⟨n, h, ?_⟩
    show eqV (.int (n : Int)) (.int (n : Int)) = true
    simp [eqV]
theorem flat_Ls (l : List Nat) : (Ls l).all flatV = true := by
  unfold Ls
  rw [List.all_map, List.all_eq_true]
  intro x _
  rfl
section
variable {P : Program} {w : World} {K : PySem.W.Frag} {mg : Str → Option Value} {base : Heap} {f : Addr} {fd : FuncData}
def spRising (K : PySem.W.Frag) : Sp := fun vs H Q _ => ∃ (t : Addr) (c : List Nat), vs = [.ref t] ∧ SqT K H t (Ls c) ∧ c.length ≤ 31 ∧ (rest c).Nodup ∧ desc ((rest c).getLast?.getD 0) (rest c) ≤ 1 ∧ ∀ H', Same H H' → Q (.bl true) H'
theorem ok_rising (G : Gb K mg) (F : Std K mg "_law_rising_around" s__law_rising_around [] f fd) : Def P w K mg base "_law_rising_around" 1 pr__law_rising_around [] (spRising K) := by
  refine Def.of F sc__law_rising_around (fun _ _ _ _ _ _ us hl => match us, hl with | [_], _ => rfl) (fun vs H Q E h => ?_) (fun cdv A outer s H vs Q E hr h => ?_)
  · obtain ⟨t, c, rfl, _⟩ := h
    rfl
  · obtain ⟨t, c, rfl, hT, hl, hnd, hds, q⟩ := h
    refine ⟨_, (pss_cons (ps_set (i := 1) sc__law_rising_around.nd rfl (Or.inr rfl) (pe_lc (own := [("_law_at", 2), ("_law_column", 3)]) (g := (gTup K 2 (gCons (gName 2) (gCons (gName 3) gNil)))) rfl sc__law_rising_around.nd (pi_enumT (by rfl) G.enumerate_ (pa_cons (pv 0) pa_nil)) (blkOk_by (own := [("_law_at", 2), ("_law_column", 3)]) (N := nm__law_rising_around) (sc := defScope s__law_rising_around) (by decide +kernel)) (fun _ _ _ _ _ => (pg_tup rfl (pgs_cons (pg_name (i := 2) sc__law_rising_around.nd rfl (Or.inl rfl)) (pgs_cons (pg_name (i := 3) sc__law_rising_around.nd rfl (Or.inl rfl)) pgs_nil)))) (fun _ _ _ _ _ => (pts_one (pt_cmpR op_ne (pv 3) (pe_ix (ix_tupK K rfl) (pv 0) (pe_op op_sub (pv 2) pe_int) (fun _ _ => rfl)) (nomark _)))) (fun _ _ _ _ _ => (pv 3))))
      (pss_cons (ps_if (pt_cmpR op_ne (pe_callB (len_seqK K rfl) (by rfl) G.len_ (by decide +kernel) (pa_cons (pv 1) pa_nil)) (pe_lenSetI rfl (by rfl) G.len_ (by rfl) G.set_ (pv 1)) (nomark _)) (pss_one (ps_ret pe_bl)) pss_nil)
      (pss_one (ps_ret (pe_cmpR op_le (pe_callB (len_seqK K rfl) (by rfl) G.len_ (by decide +kernel) (pa_cons (pe_lc (own := [("_law_at", 2)]) (g := (gName 2)) rfl sc__law_rising_around.nd (pi_range1 (by rfl) G.range_ (pa_cons (pe_callB (len_seqK K rfl) (by rfl) G.len_ (by decide +kernel) (pa_cons (pv 1) pa_nil)) pa_nil)) (blkOk_by (own := [("_law_at", 2)]) (N := nm__law_rising_around) (sc := defScope s__law_rising_around) (by decide +kernel)) (fun _ _ _ _ _ => (pg_name (i := 2) sc__law_rising_around.nd rfl (Or.inl rfl))) (fun _ _ _ _ _ => (pts_one (pt_cmpR op_lt (pe_ix (ix_listK K rfl) (pv 1) (pv 2) (fun _ _ => rfl)) (pe_ix (ix_listK K rfl) (pv 1) (pe_op op_sub (pv 2) pe_int) (fun _ _ => rfl)) (nomark _)))) (fun _ _ _ _ _ => pe_int)) pa_nil)) pe_int (nomark _)))))), ?_⟩
    refine ⟨_, rfl, t, _, rfl, hT, fun D nD => ?_⟩
    refine lc_it (walk_enumT (xs := Ls c)) (fun i H2 => Same H H2 ∧ H2 D = some (.lst (Ls (filt (c.getLast?.getD 0) (c.take i))))) ⟨same_upd nD, upd_same⟩ (fun i H2 _ ⟨s2, _⟩ => s2.seqT hT) ?_ ?_
    · rintro i x H2 H3 hi ⟨s2, hd⟩ ⟨T, x1, x2, rfl, nT, rfl, h1, h2⟩
      cases h1
      rw [len_Ls] at hi
      have gi : (Ls c)[i]? = some (.int (c[i] : Int)) := by
        unfold Ls
        rw [List.getElem?_map, List.getElem?_eq_getElem hi]
        rfl
      have h2 : (Ls c)[i]? = some x2 := h2
      rw [gi] at h2
      cases h2
      have s3 : Same H2 (upd H2 T (.tup [.int (i : Nat), .int (c[i] : Int)])) := same_upd nT
      refine ⟨T, _, rfl, SqT.of upd_same, rfl, _, _, rfl, _, _, rfl, rfl, rfl, ?_⟩
      refine ⟨_, rfl, _, rfl, _, rfl, _, _, rfl, rfl, t, _, _, _, rfl, rfl, s3.seqT (s2.seqT hT), around_at hi, rfl, _, rfl, ?_⟩
      rw [dec_intN]
      have tk : c.take (i + 1) = c.take i ++ [c[i]] := by rw [List.take_add_one, List.getElem?_eq_getElem hi]; rfl
      have hd3 := s3 _ _ hd
      refine iteB (fun e => ?_) (fun e => ?_)
      · have e := of_decide_eq_false (bnot_t e)
        refine ⟨_, rfl, _, hd3, ?_, (s2.trans s3).updN nD, ?_⟩
        · rw [len_Ls]
          exact small31 (Nat.le_trans (filt_len _ _) (by rw [List.length_take]; omega))
        · rw [upd_same, tk, filt_snoc, if_neg e, Ls_snoc]
      · have e := of_decide_eq_true (bnot_f e)
        refine ⟨s2.trans s3, ?_⟩
        rw [hd3, tk, filt_snoc, if_pos e, List.append_nil]
    · rintro H2 ⟨s2, hd⟩
      rw [len_Ls, List.take_length] at hd
      have hd : H2 D = some (.lst (Ls (rest c))) := hd
      have lr : (rest c).length ≤ 31 := Nat.le_trans (filt_len _ _) hl
      refine ⟨_, rfl, D, _, rfl, .inl (SqL.of hd), _, rfl, D, (rest c).map fun n : Nat => (n : Int), rfl, by rw [← ints_of_Ls]; exact SqL.of hd, by rw [List.length_map]; omega, ?_, rfl, _, rfl, ?_⟩
      · exact nodup_map_inj (fun a b h => Int.natCast_inj.mp h) hnd
      · rw [List.length_map, len_Ls, decide_eq_true rfl]
        refine iteF ?_
        refine ⟨_, rfl, D, _, rfl, .inl (SqL.of hd), _, rfl, by rw [len_Ls]; omega, by rw [len_Ls]; omega, ?_⟩
        rw [len_Ls, Int.toNat_natCast]
        intro D2 nD2
        refine lc_it (walk_range (lo := 0) (n := (rest c).length)) (fun i H3 => Same H2 H3 ∧ H3 D2 = some (.lst ((List.replicate (desc ((rest c).getLast?.getD 0) ((rest c).take i)) (1 : Int)).map V.int))) ⟨same_upd nD2, upd_same⟩ (fun _ _ _ _ => trivial) ?_ ?_
        · rintro i x H3 H4 hi ⟨s3, hd2⟩ ⟨rfl, rfl⟩
          have hd' := s3 _ _ hd
          have gi : (Ls (rest c))[i]? = some (.int ((rest c)[i] : Int)) := by
            unfold Ls
            rw [List.getElem?_map, List.getElem?_eq_getElem hi]
            rfl
          have tk : (rest c).take (i + 1) = (rest c).take i ++ [(rest c)[i]] := by rw [List.take_add_one, List.getElem?_eq_getElem hi]; rfl
          refine ⟨rfl, ?_⟩
          refine ⟨_, rfl, _, rfl, D, _, _, _, rfl, rfl, SqL.of hd', by rw [Int.zero_add]; exact atI_nat gi, _, rfl, _, rfl, _, _, rfl, rfl, D, _, _, _, rfl, rfl, SqL.of hd', by rw [Int.zero_add]; exact around_at hi, _, _, rfl, rfl, _, rfl, ?_⟩
          refine iteB (fun e => ?_) (fun e => ?_)
          · have e := Int.ofNat_lt.mp (of_decide_eq_true e)
            refine ⟨_, hd2, ?_, s3.updN nD2, ?_⟩
            · rw [List.length_map, List.length_replicate]
              exact small31 (Nat.le_trans (by
                have : ∀ (l : List Nat) (p : Nat), desc p l ≤ l.length := by
                  intro l
                  induction l with
                  | nil => intro p; exact Nat.le_refl _
                  | cons y l ih =>
                    intro p
                    show (if y < p then 1 else 0) + desc y l ≤ l.length + 1
                    have := ih y
                    split <;> omega
                exact this _ _) (by rw [List.length_take]; omega))
            · rw [upd_same, tk, desc_snoc, if_pos e, List.replicate_succ', ← snoc_int]
          · have e := of_decide_eq_false e
            have e : ¬ (rest c)[i] < _ := fun h => e (Int.ofNat_lt.mpr h)
            refine ⟨s3, ?_⟩
            rw [hd2, tk, desc_snoc, if_neg e]
            rfl
        · rintro H3 ⟨s3, hd2⟩
          rw [List.take_length] at hd2
          refine ⟨D2, _, rfl, .inl (SqL.of hd2), _, _, rfl, rfl, ?_⟩
          rw [List.length_map, List.length_replicate]
          show Q (.bl (decide ((desc ((rest c).getLast?.getD 0) (rest c) : Int) ≤ 1))) H3
          rw [decide_eq_true (by omega)]
          exact q H3 (s2.trans s3)
def spIsArc (K : PySem.W.Frag) : Sp := fun vs H Q _ => ∃ (D : Addr) (pl : List Nat) (m : Nat), vs = [.ref D, .int (m : Int)] ∧ SqL K H D (Ls pl) ∧ 0 < m ∧ pl.length ≤ 31 ∧ pl.Nodup ∧ (∀ i j, i ∈ pl → j ∈ pl → (i + 1) % m ∉ pl → (j + 1) % m ∉ pl → i = j) ∧ ∀ H', Same H H' → Q (.bl true) H'
theorem one_left {α : Type} {l : List α} (hn : l.Nodup) (h : ∀ a b, a ∈ l → b ∈ l → a = b) : l.length ≤ 1 := by
  match l, hn, h with
  | [], _, _ => exact Nat.zero_le _
  | [a], _, _ => exact Nat.le_refl _
  | a :: b :: r, hn, h =>
    have e := h a b (by simp) (by simp)
    have n := (List.nodup_cons.mp hn).1
    rw [e] at n
    exact absurd (List.mem_cons_self ..) n
theorem filter_take_succ {l : List Nat} {i : Nat} (hi : i < l.length) (p : Nat → Bool) : (l.take (i + 1)).filter p = (l.take i).filter p ++ (if p l[i] = true then [l[i]] else []) := by
  rw [List.take_add_one, List.getElem?_eq_getElem hi, List.filter_append]
  congr 1
  show List.filter p [l[i]] = _
  by_cases h : p l[i] = true
  · rw [if_pos h, List.filter_cons_of_pos h, List.filter_nil]
  · rw [if_neg h, List.filter_cons_of_neg h, List.filter_nil]
theorem ok_is_arc (G : Gb K mg) (F : Std K mg "_law_is_arc" s__law_is_arc [] f fd) : Def P w K mg base "_law_is_arc" 1 pr__law_is_arc [] (spIsArc K) := by
  refine Def.of F sc__law_is_arc (fun _ _ _ _ _ _ us hl => match us, hl with | [_, _], _ => rfl) (fun vs H Q E h => ?_) (fun cdv A outer s H vs Q E hr h => ?_)
  · obtain ⟨D, pl, m, rfl, _⟩ := h
    rfl
  · obtain ⟨D, pl, m, rfl, hL, hm, hl, hnd, hij, q⟩ := h
    refine ⟨_, (pss_cons (ps_setLc (i := 2) (own := [("_law_place", 3)]) (g := (gName 3)) rfl sc__law_is_arc.nd rfl rfl (sw_true rfl rfl rfl (by decide +kernel)) (pi_list (pv 0)) (blkOk_by (own := [("_law_place", 3)]) (N := nm__law_is_arc) (sc := defScope s__law_is_arc) (by decide +kernel)) (fun _ _ _ _ _ => (pg_name (i := 3) sc__law_is_arc.nd rfl (Or.inl rfl))) (fun _ _ _ _ _ => (pts_one (pt_cmpR (op_notInK K rfl) (pe_op op_mod (pe_op op_add (pv 3) pe_int) (pv 1)) (pv 0) (by with_unfolding_all rfl)))) (fun _ _ _ _ _ => (pv 3)))
      (pss_one (ps_ret (pe_cmpR op_le (pe_callB (len_seqK K rfl) (by rfl) G.len_ (by decide +kernel) (pa_cons (pv 2) pa_nil)) pe_int (nomark _))))), ?_⟩
    refine ⟨_, rfl, D, rfl, ⟨_, hL⟩, fun B nB => ?_⟩
    refine lc_it (walk_list (xs := Ls pl)) (fun i H2 => Same H H2 ∧ H2 B = some (.lst (Ls ((pl.take i).filter fun z => !decide ((z + 1) % m ∈ pl))))) ⟨same_upd nB, upd_same⟩ (fun i H2 _ ⟨s2, _⟩ => s2.seq hL) ?_ ?_
    · rintro i x H2 H3 hi ⟨s2, hd⟩ ⟨rfl, hx⟩
      rw [len_Ls] at hi
      have gi : (Ls pl)[i]? = some (.int (pl[i] : Int)) := by
        unfold Ls
        rw [List.getElem?_map, List.getElem?_eq_getElem hi]
        rfl
      rw [gi] at hx
      cases hx
      have em : ((pl[i] : Int) + 1) % (m : Int) = (((pl[i] + 1) % m : Nat) : Int) := by rw [Int.natCast_emod, Int.natCast_add]; rfl
      refine ⟨rfl, _, rfl, _, _, rfl, rfl, _, rfl, _, _, rfl, rfl, by show (0 : Int) < (m : Int); omega, ?_⟩
      refine ⟨_, rfl, D, _, rfl, .inl (s2.seq hL), rfl, flat_Ls _, _, rfl, ?_⟩
      have ev : (if true = true then !inV (V.int (((pl[i] : Int) + 1) % (m : Int))) (Ls pl) else inV (V.int (((pl[i] : Int) + 1) % (m : Int))) (Ls pl)) = !decide ((pl[i] + 1) % m ∈ pl) := by
        rw [if_pos rfl, em, inV_Ls]
      refine iteB (fun e => ?_) (fun e => ?_)
      · have e := ev.symm.trans e
        refine ⟨_, rfl, _, hd, ?_, s2.updN nB, ?_⟩
        · rw [len_Ls]
          exact small31 (Nat.le_trans (List.length_filter_le _ _) (by rw [List.length_take]; omega))
        · rw [upd_same, filter_take_succ hi, if_pos e, Ls_snoc]
      · have e := ev.symm.trans e
        refine ⟨s2, ?_⟩
        rw [hd, filter_take_succ hi, if_neg (by rw [e]; exact Bool.false_ne_true), List.append_nil]
    · rintro H2 ⟨s2, hd⟩
      rw [len_Ls, List.take_length] at hd
      refine ⟨_, rfl, B, _, rfl, .inl (SqL.of hd), _, _, rfl, rfl, ?_⟩
      have one : (pl.filter fun z => !decide ((z + 1) % m ∈ pl)).length ≤ 1 := by
        refine one_left (List.Pairwise.filter _ hnd) fun a b ha hb => ?_
        obtain ⟨a1, a2⟩ := List.mem_filter.mp ha
        obtain ⟨b1, b2⟩ := List.mem_filter.mp hb
        exact hij a b a1 b1 (of_decide_eq_false (bnot_t a2)) (of_decide_eq_false (bnot_t b2))
      rw [len_Ls]
      show Q (.bl (decide (((pl.filter fun z => !decide ((z + 1) % m ∈ pl)).length : Int) ≤ 1))) H2
      rw [decide_eq_true (by omega)]
      exact q H2 s2
end
end WT
/-! ### the law of k07: its mathematics -/
namespace WT
theorem kpt_more (L : List Nat) (r : Nat) (s u : List Trn) : kpt L r (s ++ u) ≤ kpt L r s := by
  unfold kpt
  have e : endsOf L r (s ++ u) = (endsOf L r s).map fun p => run L p u := by
    unfold endsOf
    rw [List.map_map]
    exact List.map_congr_left fun i _ => run_append L (r, i) s u
  rw [e, ← List.length_map (f := fun p => run L p u) (as := (endsOf L r s).eraseDups)]
  refine nodup_len_le _ _ (eraseDups_nodup _) fun x hx => ?_
  obtain ⟨p, hp, rfl⟩ := List.mem_map.mp (List.mem_eraseDups.mp hx)
  exact List.mem_map.mpr ⟨p, List.mem_eraseDups.mpr hp, rfl⟩
theorem kpt_nil (L : List Nat) (r : Nat) : kpt L r [] = at0 L r := by
  have hn : (endsOf L r []).Nodup := by
    unfold endsOf
    refine nodup_map_inj (fun a b h => ?_) List.nodup_range
    exact (Prod.mk.inj (show (r, a) = (r, b) from h)).2
  unfold kpt
  rw [nodup_len_eq (eraseDups_nodup _) hn fun x => List.mem_eraseDups, endsOf_len]
/-- the numbers that the law asks: every seventh part of the script -/
def numsOf (L : List Nat) (r : Nat) (s : List Trn) (n : Nat) : List Nat := (List.range n).map fun i => kpt L r (s.take (7 * i))
theorem nums_fall (L : List Nat) (r : Nat) (s : List Trn) (n : Nat) : (numsOf L r s n).Pairwise (· ≥ ·) := by
  unfold numsOf
  refine List.pairwise_map.mpr (List.Pairwise.imp (fun {a b} h => ?_) (List.pairwise_lt_range (n := n)))
  show kpt L r (s.take (7 * b)) ≤ kpt L r (s.take (7 * a))
  have h : a < b := h
  have e : s.take (7 * b) = s.take (7 * a) ++ (s.drop (7 * a)).take (7 * b - 7 * a) := by
    rw [← List.take_add, Nat.add_sub_cancel' (by omega)]
  rw [e]
  exact kpt_more _ _ _ _
/-- rising and the same items: the falling list turned round -/
theorem sorted_back {l : List Nat} {k : List Int} (hf : l.Pairwise (· ≥ ·)) (hp : k.Perm (l.map fun n : Nat => (n : Int))) (hs : k.Pairwise (· ≤ ·)) : k.reverse = l.map fun n : Nat => (n : Int) := by
  refine List.Perm.eq_of_pairwise (le := (· ≥ ·)) (fun a b _ _ h1 h2 => ?_) ?_ ?_ ((List.reverse_perm _).trans hp)
  · have h1 : b ≤ a := h1
    have h2 : a ≤ b := h2
    omega
  · exact List.pairwise_reverse.mpr hs
  · exact List.pairwise_map.mpr (List.Pairwise.imp (fun {a b} h => Int.ofNat_le.mpr h) hf)
theorem ledTo_mem {c : List Nat} {v i : Nat} : i ∈ ledTo c v ↔ i < c.length ∧ c[i]? = some v := by
  unfold ledTo
  rw [List.mem_filter, List.mem_range, decide_eq_true_eq]
theorem ledTo_nodup (c : List Nat) (v : Nat) : (ledTo c v).Nodup := List.Pairwise.filter _ List.nodup_range
theorem ledTo_len (c : List Nat) (v : Nat) : (ledTo c v).length ≤ c.length := Nat.le_trans (List.length_filter_le _ _) (by rw [List.length_range]; exact Nat.le_refl _)
theorem ledTo_ne {c : List Nat} {v : Nat} (h : v ∈ c) : ledTo c v ≠ [] := by
  obtain ⟨i, hi⟩ := List.getElem?_of_mem h
  intro e
  have := ledTo_mem.mpr ⟨(List.getElem?_eq_some_iff.mp hi).1, hi⟩
  rw [e] at this
  cases this
theorem ledTo_arc {k : Nat} {a : List Int} {c : List Nat} (A : Arnd k a c) {v : Nat} (i j : Nat) (hi : i ∈ ledTo c v) (hj : j ∈ ledTo c v) (ni : (i + 1) % c.length ∉ ledTo c v) (nj : (j + 1) % c.length ∉ ledTo c v) : i = j := by
  obtain ⟨i1, i2⟩ := ledTo_mem.mp hi
  obtain ⟨j1, j2⟩ := ledTo_mem.mp hj
  refine arc A i1 j1 i2 j2 (fun e => ni (ledTo_mem.mpr ⟨Nat.mod_lt _ (by omega), e⟩)) (fun e => nj (ledTo_mem.mpr ⟨Nat.mod_lt _ (by omega), e⟩))
theorem colsOf_mem {L : List Nat} {r : Nat} {s : List Trn} (l : Lens L) (hr : r < L.length) {v : Nat} (h : v ∈ colsOf L r s) : v < at0 L (rowOf L.length r s) := by
  unfold colsOf at h
  obtain ⟨i, hi, rfl⟩ := List.mem_map.mp h
  have := run_fits l s (p := (r, i)) ⟨hr, List.mem_range.mp hi⟩
  have e := run_row L s (r, i)
  have e : (run L (r, i) s).1 = rowOf L.length r s := e
  rw [← e]
  exact this.2
/-- in two parts -/
theorem colsOf_get {L : List Nat} {r : Nat} {s : List Trn} {i : Nat} (h : i < at0 L r) : (colsOf L r s)[i]? = some (run L (r, i) s).2 := by
  unfold colsOf
  rw [List.getElem?_map, List.getElem?_range h]
  rfl
theorem two_parts {L : List Nat} {r n : Nat} {s : List Trn} : colsOf L r s = (colsOf L r (s.take n)).map fun i => (run L (rowOf L.length r (s.take n), i) (s.drop n)).2 := by
  unfold colsOf
  rw [List.map_map]
  refine List.map_congr_left fun i _ => ?_
  show (run L (r, i) s).2 = (run L (rowOf L.length r (s.take n), (run L (r, i) (s.take n)).2) (s.drop n)).2
  have e : (rowOf L.length r (s.take n), (run L (r, i) (s.take n)).2) = run L (r, i) (s.take n) := by rw [← run_row L (s.take n) (r, i)]
  rw [e, ← run_append, List.take_append_drop]
theorem row_parts (n r : Nat) (s : List Trn) (k : Nat) : rowOf n (rowOf n r (s.take k)) (s.drop k) = rowOf n r s := by rw [← rowOf_append, List.take_append_drop]
theorem cut40 (s : List Trn) {i : Nat} (hi : i < (s.take 40).length) : s.take i ++ (s.take 40).drop (i + 1) = rmv (s.take 40) i := by
  unfold rmv
  rw [List.length_take] at hi
  rw [List.take_take, Nat.min_eq_left (by omega)]
end WT
/-! ### the law of k07 -/
namespace WT
open PySem PySem.Spec PyProof.Rows L2
theorem rg7 {m : Nat} (h : m ≤ 1000) : RgC 0 ((m : Int) + 1) 7 (m / 7 + 1) := by
  have e : Builtin.Range.rangeSize 0 ((m : Int) + 1) 7 = ((m / 7 + 1 : Nat) : Int) := by
    unfold Builtin.Range.rangeSize
    rw [if_pos (by decide), if_pos (by omega)]
    omega
  refine ⟨by decide, by decide, ?_, e⟩
  have fl : ∀ i : Int, -1000000 ≤ i → i ≤ 1000000 → Builtin.Range.rangeFitsLong i = true := fun i h1 h2 => by
    unfold Builtin.Range.rangeFitsLong
    rw [decide_eq_true (show -(2 ^ 63) ≤ i by omega), decide_eq_true (show i < 2 ^ 63 by omega)]
    rfl
  have e7 : (decide ((7 : Int) > 0)) = true := rfl
  unfold Builtin.Range.small
  simp only [e, fl 0 (by omega) (by omega), fl ((m : Int) + 1) (by omega) (by omega), fl 7 (by omega) (by omega), fl ((m / 7 + 1 : Nat) : Int) (by omega) (by omega), fl ((m : Int) + 1 + (7 - 1)) (by omega) (by omega), gt_iff_lt, show (0 : Int) < 7 from by decide, if_true, Bool.or_true, Bool.and_self]
theorem pick2 {x y : Nat} : ∀ {v : Nat}, v < 2 → ∃ R : Nat, (R = x ∨ R = y) ∧ ([.int (x : Int), .int (y : Int)] : List V)[v]? = some (.int (R : Int))
  | 0, _ => ⟨x, .inl rfl, rfl⟩
  | 1, _ => ⟨y, .inr rfl, rfl⟩
theorem no_bag2 {x y : Int} : ¬ BagO (.lst [.int x, .int y]) := fun ⟨_, _, e⟩ => by cases e
section
variable {P : Program} {w : World} {K : PySem.W.Frag} {mg : Str → Option Value} {base : Heap} {f : Addr} {fd : FuncData}
def spLaw (K : PySem.W.Frag) : Sp := fun vs H Q _ => ∃ (a : Addr) (ns : List Int), vs = [.ref a] ∧ SqL K H a (ns.map V.int) ∧ ∀ H', Q (.bl true) H'
theorem ok_law (G : Gb K mg) (F : Std K mg "law" s_law [] f fd) (D__law_bags : Def P w K mg base "_law_bags" 3 pr__law_bags [] (spBags K)) (D__law_take : Def P w K mg base "_law_take" 1 pr__law_take [] spTake)
    (D__law_lengths : Def P w K mg base "_law_lengths" 2 pr__law_lengths [] (spLengths K)) (D__law_script : Def P w K mg base "_law_script" 2 pr__law_script [] (spScript K)) (D_columns_after : Def P w K mg base "columns_after" 5 pr_columns_after [] (spColumnsAfter K))
    (D__law_rising_around : Def P w K mg base "_law_rising_around" 1 pr__law_rising_around [] (spRising K)) (D_leading_to : Def P w K mg base "leading_to" 5 pr_leading_to [] (spLeadingTo K)) (D__law_is_arc : Def P w K mg base "_law_is_arc" 1 pr__law_is_arc [] (spIsArc K))
    (D_kept : Def P w K mg base "kept" 5 pr_kept [] (spKept K)) (D_idle_turns : Def P w K mg base "idle_turns" 5 pr_idle_turns [] (spIdleTurns K)) (D_difference : Def P w K mg base "difference" 5 pr_difference [] (spDifference K)) : FnOk P w K mg base CX0 6 f fd pr_law (spLaw K) := by
  refine F.fn.ok sc_law (fun vs H Q E h => ?_) (fun cdv A outer s H vs Q E hr h => ?_)
  · obtain ⟨a, ns, rfl, _⟩ := h
    rfl
  · obtain ⟨a, ns, rfl, hL, q⟩ := h
    refine ⟨_, PSs.nox ((pss_cons (ps_for PassesOwn.never rfl (pi_list (pe_callD D__law_bags (hr.mono (by decide)) (by rfl) (pa_cons (pv 0) (pa_cons pe_int pa_nil)))) (pg_name (i := 1) sc_law.nd rfl (Or.inl rfl)) (pss_cons (ps_set (i := 2) sc_law.nd rfl (Or.inr rfl) (pe_callD D__law_lengths (hr.mono (by decide)) (by rfl) (pa_cons (pv 1) (pa_cons (pe_ix (ix_listK K rfl) (pe_lst (pa_cons pe_int (pa_cons pe_int pa_nil))) (pe_callD D__law_take (hr.mono (by decide)) (by rfl) (pa_cons (pv 1) (pa_cons pe_int pa_nil))) (fun _ _ => rfl)) (pa_cons (pe_ix (ix_listK K rfl) (pe_lst (pa_cons pe_int (pa_cons pe_int pa_nil))) (pe_callD D__law_take (hr.mono (by decide)) (by rfl) (pa_cons (pv 1) (pa_cons pe_int pa_nil))) (fun _ _ => rfl)) pa_nil)))))
      (pss_cons (ps_asg (pe_tup (pa_cons (pe_callD D__law_take (hr.mono (by decide)) (by rfl) (pa_cons (pv 1) (pa_cons (pe_callB (len_seqK K rfl) (by rfl) G.len_ (by decide +kernel) (pa_cons (pv 2) pa_nil)) pa_nil))) (pa_cons (pe_callD D__law_script (hr.mono (by decide)) (by rfl) (pa_cons (pv 1) (pa_cons pe_int pa_nil))) pa_nil))) (pg_tup rfl (pgs_cons (pg_name (i := 3) sc_law.nd rfl (Or.inr rfl)) (pgs_cons (pg_name (i := 4) sc_law.nd rfl (Or.inr rfl)) pgs_nil))))
      (pss_cons (ps_asg (pe_callD D_columns_after (hr.mono (by decide)) (by rfl) (pa_cons (pv 2) (pa_cons (pv 3) (pa_cons (pv 4) pa_nil)))) (pg_tup rfl (pgs_cons (pg_name (i := 5) sc_law.nd rfl (Or.inl rfl)) (pgs_cons (pg_name (i := 6) sc_law.nd rfl (Or.inl rfl)) pgs_nil))))
      (pss_cons (ps_if (PW.pt (pw_or (pt_cmpR op_ne (pe_callB (len_seqK K rfl) (by rfl) G.len_ (by decide +kernel) (pa_cons (pv 6) pa_nil)) (pe_ix (ix_tupK K rfl) (pv 2) (pv 3) (fun _ _ => rfl)) (nomark _)) (pw_or1 (pt_not (pt_val (pe_callD D__law_rising_around (hr.mono (by decide)) (by rfl) (pa_cons (pv 6) pa_nil))))))) (pss_one (ps_ret pe_bl)) pss_nil)
      (pss_cons (ps_for PassesOwn.never rfl (pi_list (pe_callB (cr_sortedSet rfl) (by rfl) G.sorted_ (by decide +kernel) (pa_cons (pe_callTy (cr_setI rfl) (by rfl) G.set_ (by decide +kernel) (pa_cons (pv 6) pa_nil)) pa_nil))) (pg_name (i := 7) sc_law.nd rfl (Or.inr rfl)) (pss_cons (ps_set (i := 8) sc_law.nd rfl (Or.inl rfl) (pe_callD D_leading_to (hr.mono (by decide)) (by rfl) (pa_cons (pv 2) (pa_cons (pv 3) (pa_cons (pv 4) (pa_cons (pv 7) pa_nil))))))
      (pss_cons (ps_if (pt_cmpR (op_neDK K rfl hr.units) (pv 8) (pe_lc (own := [("_law_place", 16), ("_law_end", 17)]) (g := (gTup K 2 (gCons (gName 16) (gCons (gName 17) gNil)))) rfl sc_law.nd (pi_enumT (by rfl) G.enumerate_ (pa_cons (pv 6) pa_nil)) (blkOk_by (own := [("_law_place", 16), ("_law_end", 17)]) (N := nm_law) (sc := defScope s_law) (by decide +kernel)) (fun _ _ _ _ _ => (pg_tup rfl (pgs_cons (pg_name (i := 16) sc_law.nd rfl (Or.inl rfl)) (pgs_cons (pg_name (i := 17) sc_law.nd rfl (Or.inl rfl)) pgs_nil)))) (fun _ _ _ _ _ => (pts_one (pt_cmpR op_eq (pv 17) (pv 7) (nomark _)))) (fun _ _ _ _ _ => (pv 16))) (nomark _)) (pss_one (ps_ret pe_bl)) pss_nil)
      (pss_one (ps_if (PW.pt (pw_or (pt_cmpR (op_eqDK K rfl hr.units) (pv 8) (pe_lst pa_nil) (nomark _)) (pw_or1 (pt_not (pt_val (pe_callD D__law_is_arc (hr.mono (by decide)) (by rfl) (pa_cons (pv 8) (pa_cons (pe_ix (ix_tupK K rfl) (pv 2) (pv 3) (fun _ _ => rfl)) pa_nil)))))))) (pss_one (ps_ret pe_bl)) pss_nil)))))
      (pss_cons (ps_setLc (i := 9) (own := [("_law_size", 15)]) (g := (gName 15)) (tt := tYes) rfl sc_law.nd rfl rfl (sw_true rfl rfl rfl (by decide +kernel)) (pi_range3 (by rfl) G.range_ (pa_cons pe_int (pa_cons (pe_op op_add (pe_callB (len_seqK K rfl) (by rfl) G.len_ (by decide +kernel) (pa_cons (pv 4) pa_nil)) pe_int) (pa_cons pe_int pa_nil)))) (blkOk_by (own := [("_law_size", 15)]) (N := nm_law) (sc := defScope s_law) (by decide +kernel)) (fun _ _ _ _ _ => (pg_name (i := 15) sc_law.nd rfl (Or.inl rfl))) (fun _ _ _ _ _ => pts_nil) (fun _ _ _ _ _ => (pe_callD D_kept (hr.mono (by decide)) (by rfl) (pa_cons (pv 2) (pa_cons (pv 3) (pa_cons (pe_slice (sl_tupK K rfl) (pv 4) po_none (po_some (pv 15))) pa_nil))))))
      (pss_cons (ps_if (PW.pt (pw_or (pt_cmpR (op_neDK K rfl hr.units) (pv 9) (pe_revL (pe_callB cr_sortedI (by rfl) G.sorted_ (by decide +kernel) (pa_cons (pv 9) pa_nil))) (nomark _)) (pw_or1 (pt_cmpR op_ne (pe_ix (ix_listK K rfl) (pv 9) pe_int (fun _ _ => rfl)) (pe_ix (ix_tupK K rfl) (pv 2) (pv 3) (fun _ _ => rfl)) (nomark _))))) (pss_one (ps_ret pe_bl)) pss_nil)
      (pss_cons (ps_set (i := 10) sc_law.nd rfl (Or.inl rfl) (pe_callD D__law_take (hr.mono (by decide)) (by rfl) (pa_cons (pv 1) (pa_cons (pe_op op_add (pe_callB (len_seqK K rfl) (by rfl) G.len_ (by decide +kernel) (pa_cons (pv 4) pa_nil)) pe_int) pa_nil))))
      (pss_cons (ps_asg (pe_callD D_columns_after (hr.mono (by decide)) (by rfl) (pa_cons (pv 2) (pa_cons (pv 3) (pa_cons (pe_slice (sl_tupK K rfl) (pv 4) po_none (po_some (pv 10))) pa_nil)))) (pg_tup rfl (pgs_cons (pg_name (i := 11) sc_law.nd rfl (Or.inl rfl)) (pgs_cons (pg_name (i := 12) sc_law.nd rfl (Or.inl rfl)) pgs_nil))))
      (pss_cons (ps_set (i := 13) sc_law.nd rfl (Or.inr rfl) (pe_callD D_columns_after (hr.mono (by decide)) (by rfl) (pa_cons (pv 2) (pa_cons (pv 11) (pa_cons (pe_slice (sl_tupK K rfl) (pv 4) (po_some (pv 10)) po_none) pa_nil)))))
      (pss_cons (ps_if (PW.pt (pw_or (pt_cmpR op_ne (pe_ix (ix_tupK K rfl) (pv 13) pe_int (fun _ _ => rfl)) (pv 5) (nomark _)) (pw_or1 (pt_cmpR (op_neDK K rfl hr.units) (pv 6) (pe_callTy (tuple_ofK K rfl) (by rfl) G.tuple_ (by decide +kernel) (pa_cons (pe_lc (own := [("_law_column", 7)]) (g := (gName 7)) (tt := tYes) rfl sc_law.nd (pi_tup (pv 12)) (blkOk_by (own := [("_law_column", 7)]) (N := nm_law) (sc := defScope s_law) (by decide +kernel)) (fun _ _ _ _ _ => (pg_name (i := 7) sc_law.nd rfl (Or.inl rfl))) (fun _ _ _ _ _ => pts_nil) (fun _ _ _ _ _ => (pe_ix (ix_tupK K rfl) (pe_ix (ix_tupK K rfl) (pv 13) pe_int (fun _ _ => rfl)) (pv 7) (fun _ _ => rfl)))) pa_nil)) (nomark _))))) (pss_one (ps_ret pe_bl)) pss_nil)
      (pss_cons (ps_set (i := 14) sc_law.nd rfl (Or.inl rfl) (pe_callD D_idle_turns (hr.mono (by decide)) (by rfl) (pa_cons (pv 2) (pa_cons (pv 3) (pa_cons (pe_slice (sl_tupK K rfl) (pv 4) po_none (po_some pe_int)) pa_nil)))))
      (pss_one (ps_if (pt_cmpR (op_neDK K rfl hr.units) (pv 14) (pe_lst pa_nil) (nomark _)) (pss_cons (ps_set (i := 10) sc_law.nd rfl (Or.inl rfl) (pe_ix (ix_listK K rfl) (pv 14) (pe_callD D__law_take (hr.mono (by decide)) (by rfl) (pa_cons (pv 1) (pa_cons (pe_callB (len_seqK K rfl) (by rfl) G.len_ (by decide +kernel) (pa_cons (pv 14) pa_nil)) pa_nil))) (fun _ _ => rfl)))
      (pss_one (ps_if (pt_cmpR op_notN (pe_callD D_difference (hr.mono (by decide)) (by rfl) (pa_cons (pv 2) (pa_cons (pv 3) (pa_cons (pe_slice (sl_tupK K rfl) (pv 4) po_none (po_some pe_int)) (pa_cons (pe_op (op_catK K rfl) (pe_slice (sl_tupK K rfl) (pv 4) po_none (po_some (pv 10))) (pe_slice (sl_tupK K rfl) (pv 4) (po_some (pe_op op_add (pv 10) pe_int)) (po_some pe_int))) pa_nil))))) pe_non (nomark _)) (pss_one (ps_ret pe_bl)) pss_nil))) pss_nil)))))))))))))))
      (pss_cons (ps_if (pt_cmpR op_ne (pe_callD D_kept (hr.mono (by decide)) (by rfl) (pa_cons (pe_tup (pa_cons pe_int (pa_cons pe_int (pa_cons pe_int pa_nil)))) (pa_cons pe_int (pa_cons (pe_tup (pa_cons pe_str (pa_cons pe_str (pa_cons pe_str (pa_cons pe_str (pa_cons pe_str pa_nil)))))) pa_nil)))) pe_int (nomark _)) (pss_one (ps_ret pe_bl)) pss_nil)
      (pss_one (ps_ret (pe_cmpR op_eq (pe_callD D_kept (hr.mono (by decide)) (by rfl) (pa_cons (pe_tup (pa_cons pe_int (pa_cons pe_int pa_nil))) (pa_cons pe_int (pa_cons (pe_op (op_repK K rfl) (pe_tup (pa_cons pe_str (pa_cons pe_str pa_nil))) pe_int) pa_nil)))) pe_int (nomark _))))))), ?_⟩
    refine ⟨_, rfl, a, ns, 8, rfl, hL, by decide, fun DB bs H1 s1 hDB hBs => ?_⟩
    refine ⟨DB, rfl, ⟨_, SqL.of hDB⟩, for_it (walk_list (xs := bs.map V.ref)) (fun i σ H2 => ∃ x1 x2 x3 x4 x5 x6 x7 x8 x9 x10 x11 x12 x13 x14 x15 x16 x17, σ = [some (.ref a), x1, x2, x3, x4, x5, x6, x7, x8, x9, x10, x11, x12, x13, x14, x15, x16, x17] ∧ Ky H1 H2)
      ⟨none, none, none, none, none, none, none, none, none, none, none, none, none, none, none, none, none, rfl, Ky.refl _⟩ (fun i σ H2 _ ⟨_, _, _, _, _, _, _, _, _, _, _, _, _, _, _, _, _, _, k2⟩ => k2.seqL refs_no_bag (SqL.of hDB)) ?_ ?_⟩
    · rintro i x σ H2 H3 hi ⟨x1, x2, x3, x4, x5, x6, x7, x8, x9, x10, x11, x12, x13, x14, x15, x16, x17, rfl, k3⟩ ⟨rfl, hx⟩
      obtain ⟨b, hb, rfl⟩ := get_ref hx
      have B3 : Bag H3 b := k3.bag _ (hBs b (List.mem_of_getElem? hb))
      -- lengths
      refine ⟨_, rfl, by show 2 ≤ sizeLine; decide, fun l1 n1 => ?_⟩
      have z4 := same_upd (o := .lst [.int 2, .int 12]) n1
      refine ⟨_, rfl, b, 2, rfl, z4.bag B3, by decide, fun v1 H5 k5 hv1 => ?_⟩
      obtain ⟨R, hR, eR⟩ := pick2 (x := 2) (y := 12) hv1
      refine ⟨l1, _, _, .int (R : Int), rfl, rfl, k5.seqL no_bag2 (SqL.of upd_same), atI_nat eR, ?_⟩
      refine ⟨by show 2 ≤ sizeLine; decide, fun l2 n2 => ?_⟩
      have z6 := same_upd (o := .lst [.int 5, .int 31]) n2
      have k36 := (z4.ky.trans k5).trans z6.ky
      refine ⟨_, rfl, b, 2, rfl, k36.bag _ B3, by decide, fun v2 H7 k7 hv2 => ?_⟩
      obtain ⟨M, hM, eM⟩ := pick2 (x := 5) (y := 31) hv2
      refine ⟨l2, _, _, .int (M : Int), rfl, rfl, k7.seqL no_bag2 (SqL.of upd_same), atI_nat eM, ?_⟩
      have k37 := k36.trans k7
      refine ⟨b, R, M, rfl, k37.bag _ B3, by omega, by omega, by omega, by omega, fun aL H8 L k8 l _ _ hT8 => ?_⟩
      have k38 := k37.trans k8
      -- row, turns
      refine ⟨_, rfl, _, rfl, aL, _, rfl, .inr hT8, b, (Ls L).length, rfl, k38.bag _ B3, by rw [len_Ls]; exact l.ne, fun r H9 k9 hr9 => ?_⟩
      rw [len_Ls] at hr9
      refine ⟨_, rfl, b, 200, rfl, (k38.trans k9).bag _ B3, by decide, fun aS H10 sc k10 hsc hS10 => ?_⟩
      refine ⟨by show 2 ≤ sizeLine; decide, fun t n11 => ?_⟩
      have z11 := same_upd (o := .tup [.int (r : Int), .ref aS]) n11
      refine ⟨t, _, rfl, SqT.of upd_same, rfl, _, _, rfl, _, _, rfl, rfl, ?_⟩
      have k3b := ((k38.trans k9).trans k10).trans z11.ky
      have B11 := k3b.bag _ B3
      have hT11 := z11.seqT ((k9.trans k10).seqT hT8)
      have hS11 := z11.seqT hS10
      generalize upd H10 t (.tup [.int (r : Int), .ref aS]) = H11 at k3b B11 hT11 hS11 ⊢
      have lp := l.at_pos hr9
      -- last, columns
      refine ⟨_, rfl, _, rfl, _, rfl, aL, aS, L, r, sc, rfl, hT11, hS11, l, hr9, hsc, fun p12 T H12 s12 hp12 hT12 => ?_⟩
      refine ⟨p12, _, rfl, SqT.of hp12, rfl, _, _, rfl, _, _, rfl, rfl, ?_⟩
      have hC := SqT.of (K := K) hT12
      have hL12 := s12.seqT hT11
      have hS12 := s12.seqT hS11
      have lc : (colsOf L r sc).length = at0 L r := colsOf_len L r sc
      obtain ⟨lf, A⟩ := cols_arnd l hr9 sc
      have hrise := rising A
      -- the tuple's length, its rise
      refine ⟨_, rfl, T, _, rfl, .inr hC, _, rfl, _, rfl, aL, _, _, _, rfl, rfl, hL12, atI_Ls hr9, rfl, _, rfl, iteN (by rw [len_Ls, lc, dec_intN, decide_eq_true rfl]; rfl) ?_⟩
      refine ⟨_, rfl, T, _, rfl, hC, by omega, hrise.1, hrise.2, fun H13 s13 => ⟨true, rfl, iteF ?_⟩⟩
      -- each column: the places, their arc
      have hC13 := s13.seqT hC
      refine ⟨_, rfl, T, (colsOf L r sc).map fun n : Nat => (n : Int), rfl, by rw [← ints_of_Ls]; exact hC13, by rw [List.length_map]; omega, fun S c nS hcS => ?_⟩
      refine ⟨S, _, _, rfl, upd_same, by rw [List.length_map] at hcS; omega, fun ns' p14 hs14 hm14 hl14 np14 => ?_⟩
      have z14 := (same_upd (o := SetO w S (fun j => decide (j ∈ (colsOf L r sc).map fun n : Nat => (n : Int))) c) nS).trans (same_upd (o := .lst (ns'.map V.int)) np14)
      have hp14 := upd_same (H := upd H13 S (SetO w S (fun j => decide (j ∈ (colsOf L r sc).map fun n : Nat => (n : Int))) c)) (a := p14) (o := .lst (ns'.map V.int))
      have z14 : Same H13 (upd (upd H13 S (SetO w S (fun j => decide (j ∈ (colsOf L r sc).map fun n : Nat => (n : Int))) c)) p14 (.lst (ns'.map V.int))) := z14
      refine ⟨p14, rfl, ⟨_, SqL.of hp14⟩, for_it (walk_list (xs := ns'.map V.int)) (fun i σ H => ∃ y7 y8 y9 y10 y11 y12 y13 y14 y15 y16 y17, σ = [some (.ref a), some (.ref b), some (.ref aL), some (.int (r : Int)), some (.ref aS), some (.int (rowOf L.length r sc : Int)), some (.ref T), y7, y8, y9, y10, y11, y12, y13, y14, y15, y16, y17] ∧
          Same H13 H ∧ H p14 = some (.lst (ns'.map V.int))) ⟨x7, x8, x9, x10, x11, x12, x13, x14, x15, x16, x17, rfl, z14, hp14⟩ (fun i σ H _ ⟨_, _, _, _, _, _, _, _, _, _, _, _, _, hp⟩ => SqL.of hp) ?_ ?_⟩
      · rintro i x σ H14 H15 hi ⟨y7, y8, y9, y10, y11, y12, y13, y14, y15, y16, y17, rfl, s15, hp15⟩ ⟨rfl, hx⟩
        obtain ⟨v, hv, rfl⟩ : ∃ v : Nat, v ∈ colsOf L r sc ∧ x = .int (v : Int) := by
          rw [List.getElem?_map] at hx
          cases ek : ns'[i]? with
          | none => rw [ek] at hx; exact nomatch hx
          | some k =>
            rw [ek] at hx
            have mk := of_decide_eq_true ((hm14 k).mp (List.mem_of_getElem? ek))
            obtain ⟨v, hv, e⟩ := List.mem_map.mp mk
            exact ⟨v, hv, by rw [e]; exact (Option.some.inj hx).symm⟩
        have lk := l.at_pos (rowOf_lt sc hr9)
        have hv30 := colsOf_mem l hr9 hv
        have sT := s13.trans s15
        refine ⟨_, rfl, _, rfl, _, rfl, _, rfl, aL, aS, L, r, sc, v, rfl, sT.seqT hL12, sT.seqT hS12, l, hr9, hsc, by omega, fun D H16 s16 nD hD => ?_⟩
        have s1316 := sT.trans s16
        -- the same places by the law's own look
        refine ⟨_, rfl, _, rfl, T, _, rfl, s1316.seqT hC, fun D2 nD2 => ?_⟩
        refine lc_it (walk_enumT (xs := Ls (colsOf L r sc))) (fun i H => Same H16 H ∧ H D2 = some (.lst (Ls ((List.range i).filter fun j => decide ((colsOf L r sc)[j]? = some v))))) ⟨same_upd nD2, upd_same⟩ (fun i H _ ⟨s, _⟩ => s.seqT (s1316.seqT hC)) ?_ ?_
        · rintro i x H17 H18 hi ⟨s18, hd⟩ ⟨T2, z1, z2, rfl, nT2, rfl, g1, g2⟩
          cases g1
          have g2 : (Ls (colsOf L r sc))[i]? = some z2 := g2
          rw [len_Ls, lc] at hi
          have gc : (colsOf L r sc)[i]? = some (run L (r, i) sc).2 := colsOf_get hi
          have gi : (Ls (colsOf L r sc))[i]? = some (.int ((run L (r, i) sc).2 : Int)) := by
            unfold Ls
            rw [List.getElem?_map, gc]
            rfl
          rw [gi] at g2
          cases g2
          have sN : Same H17 (upd H17 T2 (.tup [.int (i : Nat), .int ((run L (r, i) sc).2 : Int)])) := same_upd nT2
          refine ⟨T2, _, rfl, SqT.of upd_same, rfl, _, _, rfl, _, _, rfl, rfl, rfl, ?_⟩
          refine ⟨_, rfl, _, rfl, rfl, _, rfl, ?_⟩
          have ed : decide (V.int ((run L (r, i) sc).2 : Int) = V.int (v : Int)) = decide ((colsOf L r sc)[i]? = some v) := by
            rw [dec_intN, gc]
            exact decide_eq_decide.mpr ⟨fun h => by rw [h], fun h => Option.some.inj h⟩
          rw [ed]
          refine iteB (fun e1 => ?_) (fun e1 => ?_)
          · refine ⟨_, rfl, _, sN _ _ hd, ?_, (s18.trans sN).updN nD2, ?_⟩
            · rw [len_Ls]
              exact small31 (Nat.le_trans (List.length_filter_le _ _) (by rw [List.length_range]; omega))
            · rw [upd_same, filter_range_succ, if_pos e1, Ls_snoc]
          · refine ⟨s18.trans sN, ?_⟩
            rw [sN _ _ hd, filter_range_succ, if_neg (by rw [e1]; exact Bool.false_ne_true), List.append_nil]
        · rintro H17 ⟨s17, hd⟩
          rw [len_Ls] at hd
          have hd : H17 D2 = some (.lst (Ls (ledTo (colsOf L r sc) v))) := hd
          have hD17 := s17 _ _ hD
          refine ⟨.list (dN (ledTo (colsOf L r sc) v)), .list (dN (ledTo (colsOf L r sc) v)), Dp_N (SqL.of hD17), Dp_N (SqL.of hd), shN _, shN _, _, rfl, iteN (by rw [eqNl, decide_eq_true rfl]; rfl) ?_⟩
          refine ⟨_, rfl, Nat.zero_le _, fun E nE => ?_⟩
          have sE := same_upd (o := .lst []) nE
          have s1317 := (s1316.trans s17).trans sE
          refine ⟨.list (dN (ledTo (colsOf L r sc) v)), .list (dN []), Dp_N (SqL.of (sE _ _ hD17)), Dp_N (L := []) (SqL.of upd_same), shN _, shN _, _, rfl, iteN (by rw [eqNl]; exact decide_eq_false (ledTo_ne hv)) ?_⟩
          refine ⟨_, rfl, _, rfl, _, rfl, aL, _, _, _, rfl, rfl, s1317.seqT hL12, atI_Ls hr9, D, ledTo (colsOf L r sc) v, at0 L r, rfl, SqL.of (sE _ _ hD17), by omega, Nat.le_trans (ledTo_len _ _) (by omega), ledTo_nodup _ _, ?_, fun H19 s19 => ⟨true, rfl, iteF ?_⟩⟩
          · intro i j h1 h2 h3 h4
            rw [← lc] at h3 h4
            exact ledTo_arc A i j h1 h2 h3 h4
          · have sIn := ((s16.trans s17).trans sE).trans s19
            exact ⟨_, _, _, _, _, _, _, _, _, _, _, rfl, s15.trans sIn, sIn _ _ hp15⟩
      · rintro σ H14 ⟨y7, y8, y9, y10, y11, y12, y13, y14, y15, y16, y17, rfl, s14', _⟩
        have s14 := s13.trans s14'
        -- the numbers
        have lS : (Ts sc).length ≤ 1000 := by rw [len_Ts]; omega
        refine ⟨_, rfl, aS, _, rfl, .inr (s14.seqT hS12), _, _, rfl, rfl, 0, _, 7, _, rfl, rg7 lS, fun D nD => ?_⟩
        rw [len_Ts]
        refine lc_it (walk_rangeC (lo := 0) (c := 7) (n := sc.length / 7 + 1)) (fun i H => Same H14 H ∧ H D = some (.lst (Ls (numsOf L r sc i)))) ⟨same_upd nD, upd_same⟩ (fun _ _ _ _ => trivial) ?_ ?_
        · rintro i x H15 H16 hi ⟨s16, hd⟩ ⟨rfl, rfl⟩
          have sA := s14.trans s16
          refine ⟨rfl, yesT ?_⟩
          refine ⟨_, rfl, _, rfl, _, rfl, _, rfl, _, rfl, aS, _, rfl, sA.seqT hS12, fun p H17 s17 hp => ?_⟩
          have e7 : (0 : Int) + (i : Nat) * 7 = ((7 * i : Nat) : Int) := by omega
          rw [e7, cut_to, Ts_take] at hp
          refine ⟨aL, p, L, r, sc.take (7 * i), rfl, (sA.trans s17).seqT hL12, hp, l, hr9, by rw [List.length_take]; omega, fun H18 s18 => ?_⟩
          have sB := s17.trans s18
          refine ⟨_, sB _ _ hd, ?_, (s16.trans sB).updN nD, ?_⟩
          · rw [len_Ls]
            unfold numsOf
            rw [List.length_map, List.length_range]
            exact small1000 (by omega)
          · rw [upd_same, Ls_snoc]
            unfold numsOf
            rw [List.range_succ, List.map_append]
            rfl
        · rintro H15 ⟨s15, hd⟩
          have lN : (numsOf L r sc (sc.length / 7 + 1)).length = sc.length / 7 + 1 := by
            unfold numsOf
            rw [List.length_map, List.length_range]
          refine ⟨_, rfl, _, rfl, D, (numsOf L r sc (sc.length / 7 + 1)).map fun n : Nat => (n : Int), rfl, by rw [← ints_of_Ls]; exact SqL.of hd, fun ns2 p1 perm rising np1 => ?_⟩
          have sP := same_upd (o := .lst (ns2.map V.int)) np1
          refine ⟨p1, _, rfl, SqL.of upd_same, fun p2 np2 => ?_⟩
          have eb : (ns2.map V.int).reverse = Ls (numsOf L r sc (sc.length / 7 + 1)) := by
            rw [← List.map_reverse, sorted_back (nums_fall L r sc _) perm rising, ← ints_of_Ls]
          rw [eb]
          have sQ := same_upd (o := .lst (Ls (numsOf L r sc (sc.length / 7 + 1)))) np2
          have sPQ := sP.trans sQ
          have hd2 := sPQ _ _ hd
          refine ⟨.list (dN (numsOf L r sc (sc.length / 7 + 1))), .list (dN (numsOf L r sc (sc.length / 7 + 1))), Dp_N (SqL.of hd2), Dp_N (SqL.of upd_same), shN _, shN _, _, rfl, iteN (by rw [eqNl, decide_eq_true rfl]; rfl) ?_⟩
          have s16 := (s14.trans s15).trans sPQ
          have g0 : (Ls (numsOf L r sc (sc.length / 7 + 1)))[0]? = some (.int (at0 L r : Int)) := by
            unfold Ls numsOf
            rw [List.getElem?_map, List.getElem?_map, List.getElem?_range (by omega)]
            show some (V.int (kpt L r (sc.take 0) : Int)) = _
            rw [List.take_zero, kpt_nil]
          refine ⟨_, rfl, D, _, 0, _, rfl, rfl, SqL.of hd2, atI_nat (j := 0) g0, _, rfl, _, rfl, aL, _, _, _, rfl, rfl, s16.seqT hL12, atI_Ls hr9, rfl, _, rfl, iteN (by rw [dec_intN, decide_eq_true rfl]; rfl) ?_⟩
          -- two parts
          have B16 : Bag (upd (upd H15 p1 (.lst (ns2.map V.int))) p2 (.lst (Ls (numsOf L r sc (sc.length / 7 + 1))))) b := (s12.trans s16).bag B11
          refine ⟨_, rfl, _, rfl, aS, _, rfl, .inr (s16.seqT hS12), _, _, rfl, rfl, b, (Ts sc).length + 1, by rfl, B16, by omega, fun n H17 k17 hn => ?_⟩
          have k1217 := s16.ky.trans k17
          refine ⟨_, rfl, _, rfl, _, rfl, _, rfl, _, rfl, aS, _, rfl, k1217.seqT hS12, fun q1 H18 s18 hq1 => ?_⟩
          rw [cut_to, Ts_take] at hq1
          have k1218 := k1217.trans s18.ky
          have rlt := rowOf_lt (sc.take n) hr9
          refine ⟨aL, q1, L, r, sc.take n, rfl, k1218.seqT hL12, hq1, l, hr9, by rw [List.length_take]; omega, fun p3 T3 H19 s19 hp3 hT3 => ?_⟩
          refine ⟨p3, _, rfl, SqT.of hp3, rfl, _, _, rfl, _, _, rfl, rfl, ?_⟩
          have k1219 := k1218.trans s19.ky
          refine ⟨_, rfl, _, rfl, _, rfl, _, rfl, _, rfl, aS, _, rfl, k1219.seqT hS12, fun q2 H20 s20 hq2 => ?_⟩
          rw [cut_from, Ts_drop] at hq2
          have k1220 := k1219.trans s20.ky
          refine ⟨aL, q2, L, rowOf L.length r (sc.take n), sc.drop n, rfl, k1220.seqT hL12, hq2, l, rlt, by rw [List.length_drop]; omega, fun p4 T4 H21 s21 hp4 hT4 => ?_⟩
          have k1221 := k1220.trans s21.ky
          rw [row_parts] at hp4
          refine ⟨_, rfl, p4, _, 0, _, rfl, rfl, SqT.of hp4, atI_nat (j := 0) rfl, _, rfl, rfl, _, rfl, iteN (by rw [dec_intN, decide_eq_true rfl]; rfl) ?_⟩
          have hT3' := s21.seqT (s20.seqT (SqT.of (K := K) hT3))
          refine ⟨_, rfl, _, rfl, T3, rfl, ⟨_, hT3'⟩, fun D5 nD5 => ?_⟩
          refine lc_it (walk_tup (xs := Ls (colsOf L r (sc.take n)))) (fun i H => Same H21 H ∧ H D5 = some (.lst (Ls (((colsOf L r (sc.take n)).take i).map fun i => (run L (rowOf L.length r (sc.take n), i) (sc.drop n)).2)))) ⟨same_upd nD5, upd_same⟩ (fun i H _ ⟨s, _⟩ => s.seqT hT3') ?_ ?_
          · rintro i x H22 H23 hi ⟨s23, hd5⟩ ⟨rfl, hx⟩
            rw [len_Ls, colsOf_len] at hi
            have gc : (colsOf L r (sc.take n))[i]? = some (run L (r, i) (sc.take n)).2 := colsOf_get hi
            have hx : (Ls (colsOf L r (sc.take n)))[i]? = some x := hx
            unfold Ls at hx
            rw [List.getElem?_map, gc] at hx
            cases hx
            have hin := colsOf_mem l hr9 (List.mem_of_getElem? gc)
            have gd : (Ls (colsOf L (rowOf L.length r (sc.take n)) (sc.drop n)))[(run L (r, i) (sc.take n)).2]? = some (.int ((run L (rowOf L.length r (sc.take n), (run L (r, i) (sc.take n)).2) (sc.drop n)).2 : Int)) := by
              unfold Ls
              rw [List.getElem?_map, colsOf_get hin]
              rfl
            refine ⟨rfl, yesT ?_⟩
            refine ⟨_, rfl, p4, _, 1, .ref T4, rfl, rfl, s23.seqT (SqT.of hp4), atI_nat (j := 1) rfl, _, rfl, T4, _, _, _, rfl, rfl, s23.seqT (SqT.of hT4), atI_nat gd, ?_⟩
            refine ⟨_, hd5, ?_, s23.updN nD5, ?_⟩
            · rw [len_Ls, List.length_map, List.length_take, colsOf_len]
              exact small31 (by omega)
            · rw [upd_same, List.take_add_one, gc, Ls_snoc, List.map_append]
              rfl
          · rintro H22 ⟨s22, hd5⟩
            rw [len_Ls, List.take_length, ← two_parts] at hd5
            refine ⟨D5, _, rfl, .inl ⟨SqL.of hd5, fun T6 nT6 => ?_⟩⟩
            have s23 := same_upd (o := .tup (Ls (colsOf L r sc))) nT6
            have k1223 := (k1221.trans s22.ky).trans s23.ky
            refine ⟨.tuple (dN (colsOf L r sc)), .tuple (dN (colsOf L r sc)), Dp_Nt (k1223.seqT hC), Dp_Nt (SqT.of upd_same), shNt _, shNt _, _, rfl, iteN (by rw [eqNt, decide_eq_true rfl]; rfl) ?_⟩
            generalize upd H22 T6 (.tup (Ls (colsOf L r sc))) = H24 at k1223 ⊢
            -- idle turns
            have hl40 : (sc.take 40).length ≤ 200 := by rw [List.length_take]; omega
            refine ⟨_, rfl, _, rfl, _, rfl, _, rfl, aS, _, rfl, k1223.seqT hS12, fun q6 H25 s25 hq6 => ?_⟩
            have hq6 : SqT K H25 q6 (Ts (sc.take 40)) := by
              rw [← Ts_take, ← cut_to]
              exact hq6
            have k1225 := k1223.trans s25.ky
            refine ⟨aL, q6, L, r, sc.take 40, rfl, k1225.seqT hL12, hq6, l, hr9, hl40, fun D7 H26 s26 nD7 hD7 => ?_⟩
            have k1226 := k1225.trans s26.ky
            refine ⟨_, rfl, Nat.zero_le _, fun E8 nE8 => ?_⟩
            have s27 := same_upd (o := .lst []) nE8
            have k1227 := k1226.trans s27.ky
            have hD7' := s27 _ _ hD7
            refine ⟨.list (dN (idleOf L r (sc.take 40))), .list (dN []), Dp_N (SqL.of hD7'), Dp_N (L := []) (SqL.of upd_same), shN _, shN _, _, rfl, ?_⟩
            generalize upd H26 E8 (.lst []) = H27 at k1227 hD7' ⊢
            have k327 := (k3b.trans s12.ky).trans k1227
            refine iteB (fun e => ?_) (fun e => ?_)
            · rw [eqNl] at e
              have hne := of_decide_eq_false (bnot_t e)
              have hpos : 1 ≤ (idleOf L r (sc.take 40)).length := by
                cases q : idleOf L r (sc.take 40) with
                | nil => exact absurd q hne
                | cons _ _ => rw [List.length_cons]; omega
              refine ⟨_, rfl, _, rfl, _, rfl, D7, _, rfl, .inl (SqL.of hD7'), b, (Ls (idleOf L r (sc.take 40))).length, rfl, k327.bag _ B3, by rw [len_Ls]; exact hpos, fun j H28 k28 hj => ?_⟩
              rw [len_Ls] at hj
              have gj : (Ls (idleOf L r (sc.take 40)))[j]? = some (.int ((idleOf L r (sc.take 40))[j] : Int)) := by
                unfold Ls
                rw [List.getElem?_map, List.getElem?_eq_getElem hj]
                rfl
              have mj : (idleOf L r (sc.take 40))[j] ∈ idleOf L r (sc.take 40) := List.getElem_mem hj
              refine ⟨D7, _, _, _, rfl, rfl, k28.seqL Ls_no_bag (SqL.of hD7'), atI_nat gj, ?_⟩
              generalize (idleOf L r (sc.take 40))[j] = u at mj ⊢
              have mj' : u ∈ (List.range (sc.take 40).length).filter fun i => decide (endsOf L r (rmv (sc.take 40) i) = endsOf L r (sc.take 40)) := mj
              obtain ⟨hu1, hu2⟩ := List.mem_filter.mp mj'
              have hu1 := List.mem_range.mp hu1
              have hu2 := of_decide_eq_true hu2
              have k1228 := k1227.trans k28
              refine ⟨_, rfl, _, rfl, _, rfl, _, rfl, aS, _, rfl, k1228.seqT hS12, fun q9 H29 s29 hq9 => ?_⟩
              have hq9 : SqT K H29 q9 (Ts (sc.take 40)) := by
                rw [← Ts_take, ← cut_to]
                exact hq9
              have k1229 := k1228.trans s29.ky
              refine ⟨_, rfl, _, rfl, _, rfl, aS, _, rfl, k1229.seqT hS12, fun q10 H30 s30 hq10 => ?_⟩
              rw [cut_to, Ts_take] at hq10
              have k1230 := k1229.trans s30.ky
              refine ⟨_, rfl, _, rfl, _, _, rfl, rfl, _, rfl, _, rfl, aS, _, rfl, k1230.seqT hS12, fun q11 H31 s31 hq11 => ?_⟩
              have hq11 : SqT K H31 q11 (Ts ((sc.take 40).drop (u + 1))) := by
                rw [← Ts_drop, ← Ts_take, ← cut_both]
                exact hq11
              have k1231 := k1230.trans s31.ky
              refine ⟨q10, q11, _, _, rfl, rfl, s31.seqT hq10, hq11, ?_, fun q12 H32 s32 hq12 => ?_⟩
              · rw [len_Ts, len_Ts, List.length_take, List.length_drop, List.length_take]
                exact Nat.le_of_lt (small1000 (by omega))
              rw [Ts_append, cut40 sc hu1] at hq12
              have k1232 := k1231.trans s32.ky
              refine ⟨aL, q9, q12, L, r, sc.take 40, rmv (sc.take 40) u, rfl, k1232.seqT hL12, s32.seqT (s31.seqT (s30.seqT hq9)), hq12, l, hr9, hl40, Nat.le_trans rmv_len hl40, hu2.symm, fun H33 s33 => ?_⟩
              refine ⟨rfl, _, rfl, iteN rfl ?_⟩
              exact ⟨_, _, _, _, _, _, _, _, _, _, _, _, _, _, _, _, _, rfl, ((((k3.trans k3b).trans s12.ky).trans k1232).trans s33.ky)⟩
            · exact ⟨_, _, _, _, _, _, _, _, _, _, _, _, _, _, _, _, _, rfl, k3.trans k327⟩
    · rintro σ H2 ⟨x1, x2, x3, x4, x5, x6, x7, x8, x9, x10, x11, x12, x13, x14, x15, x16, x17, rfl, k2⟩
      refine ⟨by show 3 ≤ sizeLine; decide, fun t1 n1 => ?_⟩
      refine ⟨by show 5 ≤ sizeLine; decide, fun t2 n2 => ?_⟩
      have z2 := same_upd (o := .tup [.str "R+", .str "R-", .str "C+", .str "C+", .str "R+"]) n2
      refine ⟨t1, t2, [5, 3, 4], 0, [.rp, .rm, .cp, .cp, .rp], rfl, z2.seqT (SqT.of upd_same), SqT.of upd_same, ⟨by decide, by decide, by decide⟩, by decide, by decide, fun H3 s3 => ?_⟩
      refine ⟨rfl, _, rfl, iteN (by decide +kernel) ?_⟩
      refine ⟨by show 2 ≤ sizeLine; decide, fun t4 n4 => ?_⟩
      refine ⟨by show 2 ≤ sizeLine; decide, fun t5 n5 => ?_⟩
      have z5 := same_upd (o := .tup [.str "R+", .str "C-"]) n5
      refine ⟨t5, 9, _, rfl, rfl, SqT.of upd_same, (fun e => nomatch e), by decide, by decide, by decide, fun t6 H6 s6 h6 => ?_⟩
      have e6 : (List.replicate (9 : Int).toNat ([.str "R+", .str "C-"] : List V)).flatten = Ts [.rp, .cm, .rp, .cm, .rp, .cm, .rp, .cm, .rp, .cm, .rp, .cm, .rp, .cm, .rp, .cm, .rp, .cm] := rfl
      rw [e6] at h6
      refine ⟨t4, t6, [4, 4], 1, _, rfl, s6.seqT (z5.seqT (SqT.of upd_same)), h6, ⟨by decide, by decide, by decide⟩, by decide, by decide, fun H7 s7 => ?_⟩
      refine ⟨rfl, ?_⟩
      have e7 : decide (V.int (kpt [4, 4] 1 [.rp, .cm, .rp, .cm, .rp, .cm, .rp, .cm, .rp, .cm, .rp, .cm, .rp, .cm, .rp, .cm, .rp, .cm] : Int) = V.int 4) = true := by decide +kernel
      rw [e7]
      exact q _
end
end WT
/-! ### the head, the end -/
namespace WT
open PySem PySem.Spec PyProof.Rows L2
def exb (K : PySem.W.Frag) : Bool := He.tupB K "TURNS" [.str "C+", .str "C-", .str "R+", .str "R-"]
def d_is_integer : He.DefD := ⟨("is_integer", none), "is_integer", "is_integer", defArgs s_is_integer, defBody s_is_integer, defScope s_is_integer, [], []⟩
def d_is_lengths : He.DefD := ⟨("is_lengths", none), "is_lengths", "is_lengths", defArgs s_is_lengths, defBody s_is_lengths, defScope s_is_lengths, [], []⟩
def d_need_lengths : He.DefD := ⟨("need_lengths", none), "need_lengths", "need_lengths", defArgs s_need_lengths, defBody s_need_lengths, defScope s_need_lengths, [], []⟩
def d_is_turn : He.DefD := ⟨("is_turn", none), "is_turn", "is_turn", defArgs s_is_turn, defBody s_is_turn, defScope s_is_turn, [], []⟩
def d_is_script : He.DefD := ⟨("is_script", none), "is_script", "is_script", defArgs s_is_script, defBody s_is_script, defScope s_is_script, [], []⟩
def d_need_script : He.DefD := ⟨("need_script", none), "need_script", "need_script", defArgs s_need_script, defBody s_need_script, defScope s_need_script, [.int 200], []⟩
def d_need_row : He.DefD := ⟨("need_row", none), "need_row", "need_row", defArgs s_need_row, defBody s_need_row, defScope s_need_row, [], []⟩
def d_next_row : He.DefD := ⟨("next_row", none), "next_row", "next_row", defArgs s_next_row, defBody s_next_row, defScope s_next_row, [], []⟩
def d_after_turn : He.DefD := ⟨("after_turn", none), "after_turn", "after_turn", defArgs s_after_turn, defBody s_after_turn, defScope s_after_turn, [], []⟩
def d_after_script : He.DefD := ⟨("after_script", none), "after_script", "after_script", defArgs s_after_script, defBody s_after_script, defScope s_after_script, [], []⟩
def d_ends_of : He.DefD := ⟨("ends_of", none), "ends_of", "ends_of", defArgs s_ends_of, defBody s_ends_of, defScope s_ends_of, [], []⟩
def d_need_all : He.DefD := ⟨("need_all", none), "need_all", "need_all", defArgs s_need_all, defBody s_need_all, defScope s_need_all, [], []⟩
def d_columns_after : He.DefD := ⟨("columns_after", none), "columns_after", "columns_after", defArgs s_columns_after, defBody s_columns_after, defScope s_columns_after, [], []⟩
def d_kept : He.DefD := ⟨("kept", none), "kept", "kept", defArgs s_kept, defBody s_kept, defScope s_kept, [], []⟩
def d_leading_to : He.DefD := ⟨("leading_to", none), "leading_to", "leading_to", defArgs s_leading_to, defBody s_leading_to, defScope s_leading_to, [], []⟩
def d_difference : He.DefD := ⟨("difference", none), "difference", "difference", defArgs s_difference, defBody s_difference, defScope s_difference, [], []⟩
def d_idle_turns : He.DefD := ⟨("idle_turns", none), "idle_turns", "idle_turns", defArgs s_idle_turns, defBody s_idle_turns, defScope s_idle_turns, [], []⟩
def d__law_cell_at : He.DefD := ⟨("_law_cell_at", none), "_law_cell_at", "_law_cell_at", defArgs s__law_cell_at, defBody s__law_cell_at, defScope s__law_cell_at, [], []⟩
def d__law_draws : He.DefD := ⟨("_law_draws", none), "_law_draws", "_law_draws", defArgs s__law_draws, defBody s__law_draws, defScope s__law_draws, [], []⟩
def d__law_bag : He.DefD := ⟨("_law_bag", none), "_law_bag", "_law_bag", defArgs s__law_bag, defBody s__law_bag, defScope s__law_bag, [], []⟩
def d__law_bags : He.DefD := ⟨("_law_bags", none), "_law_bags", "_law_bags", defArgs s__law_bags, defBody s__law_bags, defScope s__law_bags, [], []⟩
def d__law_take : He.DefD := ⟨("_law_take", none), "_law_take", "_law_take", defArgs s__law_take, defBody s__law_take, defScope s__law_take, [], []⟩
def d__law_lengths : He.DefD := ⟨("_law_lengths", none), "_law_lengths", "_law_lengths", defArgs s__law_lengths, defBody s__law_lengths, defScope s__law_lengths, [], []⟩
def d__law_turns : He.DefD := ⟨("_law_turns", none), "_law_turns", "_law_turns", defArgs s__law_turns, defBody s__law_turns, defScope s__law_turns, [], []⟩
def d__law_script : He.DefD := ⟨("_law_script", none), "_law_script", "_law_script", defArgs s__law_script, defBody s__law_script, defScope s__law_script, [], []⟩
def d__law_rising_around : He.DefD := ⟨("_law_rising_around", none), "_law_rising_around", "_law_rising_around", defArgs s__law_rising_around, defBody s__law_rising_around, defScope s__law_rising_around, [], []⟩
def d__law_is_arc : He.DefD := ⟨("_law_is_arc", none), "_law_is_arc", "_law_is_arc", defArgs s__law_is_arc, defBody s__law_is_arc, defScope s__law_is_arc, [], []⟩
def d_law : He.DefD := ⟨("law", none), "law", "law", defArgs s_law, defBody s_law, defScope s_law, [], []⟩
def fns : List He.DefD := [d_is_integer, d_is_lengths, d_need_lengths, d_is_turn, d_is_script, d_need_script, d_need_row, d_next_row, d_after_turn, d_after_script, d_ends_of, d_need_all, d_columns_after, d_kept, d_leading_to, d_difference, d_idle_turns, d__law_cell_at, d__law_draws, d__law_bag, d__law_bags, d__law_take, d__law_lengths, d__law_turns, d__law_script, d__law_rising_around, d__law_is_arc, d_law]
def fas : List He.Fa := [.glo "is_integer", .glo "is_lengths", .glo "need_lengths", .glo "is_turn", .glo "is_script", .glo "need_script", .glo "need_row", .glo "next_row", .glo "after_turn", .glo "after_script", .glo "ends_of", .glo "need_all", .glo "columns_after", .glo "kept", .glo "leading_to", .glo "difference", .glo "idle_turns", .glo "_law_cell_at", .glo "_law_draws", .glo "_law_bag", .glo "_law_bags", .glo "_law_take", .glo "_law_lengths", .glo "_law_turns", .glo "_law_script", .glo "_law_rising_around", .glo "_law_is_arc", .glo "law", .free "len", .free "isinstance", .free "range", .free "min", .free "max", .free "int", .free "bool", .free "tuple", .free "str", .free "set", .free "all", .free "sorted", .free "enumerate", .free "zip", .free "list", .int "MAX_ROWS" 12, .int "MAX_LENGTH" 31, .int "MAX_SCRIPT" 200, .glo "TURNS"]
def loose0 : List Str := ["WheelError", "InvalidLengths", "InvalidScript", "InvalidRow", "InvalidNumber", "TURNS", "MAX_ROWS", "MAX_LENGTH", "MAX_SCRIPT", "is_integer", "is_lengths", "need_lengths", "is_turn", "is_script", "need_script", "need_row", "next_row", "after_turn", "after_script", "ends_of", "need_all", "columns_after", "kept", "leading_to", "difference", "idle_turns", "_law_cell_at", "_law_draws", "_law_bag", "_law_bags"]
def loose1 : List Str := ["_law_take", "_law_lengths", "_law_turns", "_law_script", "_law_rising_around", "_law_is_arc"]
def loose : List Str := loose0 ++ loose1
abbrev lawAt : Nat := 40
theorem gb {w : World} {K : PySem.W.Frag} {h : Heap} {mg : Str → Option Value} (KX : K.In h) (NS : h.Ns mainGlobals mg) (c : He.SaysX fas fns [] [] exb w h K) : Gb K mg := ⟨He.free_ok KX NS (c.t.d.fact 28 (f := .free "len") rfl), He.free_ok KX NS (c.t.d.fact 29 (f := .free "isinstance") rfl), He.free_ok KX NS (c.t.d.fact 30 (f := .free "range") rfl), He.free_ok KX NS (c.t.d.fact 31 (f := .free "min") rfl), He.free_ok KX NS (c.t.d.fact 32 (f := .free "max") rfl), He.free_ok KX NS (c.t.d.fact 33 (f := .free "int") rfl), He.free_ok KX NS (c.t.d.fact 34 (f := .free "bool") rfl), He.free_ok KX NS (c.t.d.fact 35 (f := .free "tuple") rfl), He.free_ok KX NS (c.t.d.fact 36 (f := .free "str") rfl), He.free_ok KX NS (c.t.d.fact 37 (f := .free "set") rfl), He.free_ok KX NS (c.t.d.fact 38 (f := .free "all") rfl), He.free_ok KX NS (c.t.d.fact 39 (f := .free "sorted") rfl), He.free_ok KX NS (c.t.d.fact 40 (f := .free "enumerate") rfl), He.free_ok KX NS (c.t.d.fact 41 (f := .free "zip") rfl), He.free_ok KX NS (c.t.d.fact 42 (f := .free "list") rfl), He.int_ok KX NS (c.t.d.fact 43 (f := .int "MAX_ROWS" 12) rfl), He.int_ok KX NS (c.t.d.fact 44 (f := .int "MAX_LENGTH" 31) rfl), He.int_ok KX NS (c.t.d.fact 45 (f := .int "MAX_SCRIPT" 200) rfl), He.glo_ok KX NS (c.t.d.fact 46 (f := .glo "TURNS") rfl), fun H => He.tupB_ok c.more H⟩
theorem std_is_integer {w : World} {K : PySem.W.Frag} {h : Heap} {mg : Str → Option Value} (KX : K.In h) (NS : h.Ns mainGlobals mg) (c : He.SaysX fas fns [] [] exb w h K) : ∃ fd, Std K mg "is_integer" s_is_integer [] (He.ga K "is_integer") fd := by
  obtain ⟨fd, F⟩ := c.t.d.def_ 0 (d := d_is_integer) rfl
  exact ⟨fd, F, He.glo_ok KX NS (c.t.d.fact 0 (f := .glo "is_integer") rfl)⟩
theorem std_is_lengths {w : World} {K : PySem.W.Frag} {h : Heap} {mg : Str → Option Value} (KX : K.In h) (NS : h.Ns mainGlobals mg) (c : He.SaysX fas fns [] [] exb w h K) : ∃ fd, Std K mg "is_lengths" s_is_lengths [] (He.ga K "is_lengths") fd := by
  obtain ⟨fd, F⟩ := c.t.d.def_ 1 (d := d_is_lengths) rfl
  exact ⟨fd, F, He.glo_ok KX NS (c.t.d.fact 1 (f := .glo "is_lengths") rfl)⟩
theorem std_need_lengths {w : World} {K : PySem.W.Frag} {h : Heap} {mg : Str → Option Value} (KX : K.In h) (NS : h.Ns mainGlobals mg) (c : He.SaysX fas fns [] [] exb w h K) : ∃ fd, Std K mg "need_lengths" s_need_lengths [] (He.ga K "need_lengths") fd := by
  obtain ⟨fd, F⟩ := c.t.d.def_ 2 (d := d_need_lengths) rfl
  exact ⟨fd, F, He.glo_ok KX NS (c.t.d.fact 2 (f := .glo "need_lengths") rfl)⟩
theorem std_is_turn {w : World} {K : PySem.W.Frag} {h : Heap} {mg : Str → Option Value} (KX : K.In h) (NS : h.Ns mainGlobals mg) (c : He.SaysX fas fns [] [] exb w h K) : ∃ fd, Std K mg "is_turn" s_is_turn [] (He.ga K "is_turn") fd := by
  obtain ⟨fd, F⟩ := c.t.d.def_ 3 (d := d_is_turn) rfl
  exact ⟨fd, F, He.glo_ok KX NS (c.t.d.fact 3 (f := .glo "is_turn") rfl)⟩
theorem std_is_script {w : World} {K : PySem.W.Frag} {h : Heap} {mg : Str → Option Value} (KX : K.In h) (NS : h.Ns mainGlobals mg) (c : He.SaysX fas fns [] [] exb w h K) : ∃ fd, Std K mg "is_script" s_is_script [] (He.ga K "is_script") fd := by
  obtain ⟨fd, F⟩ := c.t.d.def_ 4 (d := d_is_script) rfl
  exact ⟨fd, F, He.glo_ok KX NS (c.t.d.fact 4 (f := .glo "is_script") rfl)⟩
theorem std_need_script {w : World} {K : PySem.W.Frag} {h : Heap} {mg : Str → Option Value} (KX : K.In h) (NS : h.Ns mainGlobals mg) (c : He.SaysX fas fns [] [] exb w h K) : ∃ fd, Std K mg "need_script" s_need_script [.int 200] (He.ga K "need_script") fd := by
  obtain ⟨fd, F⟩ := c.t.d.def_ 5 (d := d_need_script) rfl
  exact ⟨fd, F, He.glo_ok KX NS (c.t.d.fact 5 (f := .glo "need_script") rfl)⟩
theorem std_need_row {w : World} {K : PySem.W.Frag} {h : Heap} {mg : Str → Option Value} (KX : K.In h) (NS : h.Ns mainGlobals mg) (c : He.SaysX fas fns [] [] exb w h K) : ∃ fd, Std K mg "need_row" s_need_row [] (He.ga K "need_row") fd := by
  obtain ⟨fd, F⟩ := c.t.d.def_ 6 (d := d_need_row) rfl
  exact ⟨fd, F, He.glo_ok KX NS (c.t.d.fact 6 (f := .glo "need_row") rfl)⟩
theorem std_next_row {w : World} {K : PySem.W.Frag} {h : Heap} {mg : Str → Option Value} (KX : K.In h) (NS : h.Ns mainGlobals mg) (c : He.SaysX fas fns [] [] exb w h K) : ∃ fd, Std K mg "next_row" s_next_row [] (He.ga K "next_row") fd := by
  obtain ⟨fd, F⟩ := c.t.d.def_ 7 (d := d_next_row) rfl
  exact ⟨fd, F, He.glo_ok KX NS (c.t.d.fact 7 (f := .glo "next_row") rfl)⟩
theorem std_after_turn {w : World} {K : PySem.W.Frag} {h : Heap} {mg : Str → Option Value} (KX : K.In h) (NS : h.Ns mainGlobals mg) (c : He.SaysX fas fns [] [] exb w h K) : ∃ fd, Std K mg "after_turn" s_after_turn [] (He.ga K "after_turn") fd := by
  obtain ⟨fd, F⟩ := c.t.d.def_ 8 (d := d_after_turn) rfl
  exact ⟨fd, F, He.glo_ok KX NS (c.t.d.fact 8 (f := .glo "after_turn") rfl)⟩
theorem std_after_script {w : World} {K : PySem.W.Frag} {h : Heap} {mg : Str → Option Value} (KX : K.In h) (NS : h.Ns mainGlobals mg) (c : He.SaysX fas fns [] [] exb w h K) : ∃ fd, Std K mg "after_script" s_after_script [] (He.ga K "after_script") fd := by
  obtain ⟨fd, F⟩ := c.t.d.def_ 9 (d := d_after_script) rfl
  exact ⟨fd, F, He.glo_ok KX NS (c.t.d.fact 9 (f := .glo "after_script") rfl)⟩
theorem std_ends_of {w : World} {K : PySem.W.Frag} {h : Heap} {mg : Str → Option Value} (KX : K.In h) (NS : h.Ns mainGlobals mg) (c : He.SaysX fas fns [] [] exb w h K) : ∃ fd, Std K mg "ends_of" s_ends_of [] (He.ga K "ends_of") fd := by
  obtain ⟨fd, F⟩ := c.t.d.def_ 10 (d := d_ends_of) rfl
  exact ⟨fd, F, He.glo_ok KX NS (c.t.d.fact 10 (f := .glo "ends_of") rfl)⟩
theorem std_need_all {w : World} {K : PySem.W.Frag} {h : Heap} {mg : Str → Option Value} (KX : K.In h) (NS : h.Ns mainGlobals mg) (c : He.SaysX fas fns [] [] exb w h K) : ∃ fd, Std K mg "need_all" s_need_all [] (He.ga K "need_all") fd := by
  obtain ⟨fd, F⟩ := c.t.d.def_ 11 (d := d_need_all) rfl
  exact ⟨fd, F, He.glo_ok KX NS (c.t.d.fact 11 (f := .glo "need_all") rfl)⟩
theorem std_columns_after {w : World} {K : PySem.W.Frag} {h : Heap} {mg : Str → Option Value} (KX : K.In h) (NS : h.Ns mainGlobals mg) (c : He.SaysX fas fns [] [] exb w h K) : ∃ fd, Std K mg "columns_after" s_columns_after [] (He.ga K "columns_after") fd := by
  obtain ⟨fd, F⟩ := c.t.d.def_ 12 (d := d_columns_after) rfl
  exact ⟨fd, F, He.glo_ok KX NS (c.t.d.fact 12 (f := .glo "columns_after") rfl)⟩
theorem std_kept {w : World} {K : PySem.W.Frag} {h : Heap} {mg : Str → Option Value} (KX : K.In h) (NS : h.Ns mainGlobals mg) (c : He.SaysX fas fns [] [] exb w h K) : ∃ fd, Std K mg "kept" s_kept [] (He.ga K "kept") fd := by
  obtain ⟨fd, F⟩ := c.t.d.def_ 13 (d := d_kept) rfl
  exact ⟨fd, F, He.glo_ok KX NS (c.t.d.fact 13 (f := .glo "kept") rfl)⟩
theorem std_leading_to {w : World} {K : PySem.W.Frag} {h : Heap} {mg : Str → Option Value} (KX : K.In h) (NS : h.Ns mainGlobals mg) (c : He.SaysX fas fns [] [] exb w h K) : ∃ fd, Std K mg "leading_to" s_leading_to [] (He.ga K "leading_to") fd := by
  obtain ⟨fd, F⟩ := c.t.d.def_ 14 (d := d_leading_to) rfl
  exact ⟨fd, F, He.glo_ok KX NS (c.t.d.fact 14 (f := .glo "leading_to") rfl)⟩
theorem std_difference {w : World} {K : PySem.W.Frag} {h : Heap} {mg : Str → Option Value} (KX : K.In h) (NS : h.Ns mainGlobals mg) (c : He.SaysX fas fns [] [] exb w h K) : ∃ fd, Std K mg "difference" s_difference [] (He.ga K "difference") fd := by
  obtain ⟨fd, F⟩ := c.t.d.def_ 15 (d := d_difference) rfl
  exact ⟨fd, F, He.glo_ok KX NS (c.t.d.fact 15 (f := .glo "difference") rfl)⟩
theorem std_idle_turns {w : World} {K : PySem.W.Frag} {h : Heap} {mg : Str → Option Value} (KX : K.In h) (NS : h.Ns mainGlobals mg) (c : He.SaysX fas fns [] [] exb w h K) : ∃ fd, Std K mg "idle_turns" s_idle_turns [] (He.ga K "idle_turns") fd := by
  obtain ⟨fd, F⟩ := c.t.d.def_ 16 (d := d_idle_turns) rfl
  exact ⟨fd, F, He.glo_ok KX NS (c.t.d.fact 16 (f := .glo "idle_turns") rfl)⟩
theorem std__law_cell_at {w : World} {K : PySem.W.Frag} {h : Heap} {mg : Str → Option Value} (KX : K.In h) (NS : h.Ns mainGlobals mg) (c : He.SaysX fas fns [] [] exb w h K) : ∃ fd, Std K mg "_law_cell_at" s__law_cell_at [] (He.ga K "_law_cell_at") fd := by
  obtain ⟨fd, F⟩ := c.t.d.def_ 17 (d := d__law_cell_at) rfl
  exact ⟨fd, F, He.glo_ok KX NS (c.t.d.fact 17 (f := .glo "_law_cell_at") rfl)⟩
theorem std__law_draws {w : World} {K : PySem.W.Frag} {h : Heap} {mg : Str → Option Value} (KX : K.In h) (NS : h.Ns mainGlobals mg) (c : He.SaysX fas fns [] [] exb w h K) : ∃ fd, Std K mg "_law_draws" s__law_draws [] (He.ga K "_law_draws") fd := by
  obtain ⟨fd, F⟩ := c.t.d.def_ 18 (d := d__law_draws) rfl
  exact ⟨fd, F, He.glo_ok KX NS (c.t.d.fact 18 (f := .glo "_law_draws") rfl)⟩
theorem std__law_bag {w : World} {K : PySem.W.Frag} {h : Heap} {mg : Str → Option Value} (KX : K.In h) (NS : h.Ns mainGlobals mg) (c : He.SaysX fas fns [] [] exb w h K) : ∃ fd, Std K mg "_law_bag" s__law_bag [] (He.ga K "_law_bag") fd := by
  obtain ⟨fd, F⟩ := c.t.d.def_ 19 (d := d__law_bag) rfl
  exact ⟨fd, F, He.glo_ok KX NS (c.t.d.fact 19 (f := .glo "_law_bag") rfl)⟩
theorem std__law_bags {w : World} {K : PySem.W.Frag} {h : Heap} {mg : Str → Option Value} (KX : K.In h) (NS : h.Ns mainGlobals mg) (c : He.SaysX fas fns [] [] exb w h K) : ∃ fd, Std K mg "_law_bags" s__law_bags [] (He.ga K "_law_bags") fd := by
  obtain ⟨fd, F⟩ := c.t.d.def_ 20 (d := d__law_bags) rfl
  exact ⟨fd, F, He.glo_ok KX NS (c.t.d.fact 20 (f := .glo "_law_bags") rfl)⟩
theorem std__law_take {w : World} {K : PySem.W.Frag} {h : Heap} {mg : Str → Option Value} (KX : K.In h) (NS : h.Ns mainGlobals mg) (c : He.SaysX fas fns [] [] exb w h K) : ∃ fd, Std K mg "_law_take" s__law_take [] (He.ga K "_law_take") fd := by
  obtain ⟨fd, F⟩ := c.t.d.def_ 21 (d := d__law_take) rfl
  exact ⟨fd, F, He.glo_ok KX NS (c.t.d.fact 21 (f := .glo "_law_take") rfl)⟩
theorem std__law_lengths {w : World} {K : PySem.W.Frag} {h : Heap} {mg : Str → Option Value} (KX : K.In h) (NS : h.Ns mainGlobals mg) (c : He.SaysX fas fns [] [] exb w h K) : ∃ fd, Std K mg "_law_lengths" s__law_lengths [] (He.ga K "_law_lengths") fd := by
  obtain ⟨fd, F⟩ := c.t.d.def_ 22 (d := d__law_lengths) rfl
  exact ⟨fd, F, He.glo_ok KX NS (c.t.d.fact 22 (f := .glo "_law_lengths") rfl)⟩
theorem std__law_turns {w : World} {K : PySem.W.Frag} {h : Heap} {mg : Str → Option Value} (KX : K.In h) (NS : h.Ns mainGlobals mg) (c : He.SaysX fas fns [] [] exb w h K) : ∃ fd, Std K mg "_law_turns" s__law_turns [] (He.ga K "_law_turns") fd := by
  obtain ⟨fd, F⟩ := c.t.d.def_ 23 (d := d__law_turns) rfl
  exact ⟨fd, F, He.glo_ok KX NS (c.t.d.fact 23 (f := .glo "_law_turns") rfl)⟩
theorem std__law_script {w : World} {K : PySem.W.Frag} {h : Heap} {mg : Str → Option Value} (KX : K.In h) (NS : h.Ns mainGlobals mg) (c : He.SaysX fas fns [] [] exb w h K) : ∃ fd, Std K mg "_law_script" s__law_script [] (He.ga K "_law_script") fd := by
  obtain ⟨fd, F⟩ := c.t.d.def_ 24 (d := d__law_script) rfl
  exact ⟨fd, F, He.glo_ok KX NS (c.t.d.fact 24 (f := .glo "_law_script") rfl)⟩
theorem std__law_rising_around {w : World} {K : PySem.W.Frag} {h : Heap} {mg : Str → Option Value} (KX : K.In h) (NS : h.Ns mainGlobals mg) (c : He.SaysX fas fns [] [] exb w h K) : ∃ fd, Std K mg "_law_rising_around" s__law_rising_around [] (He.ga K "_law_rising_around") fd := by
  obtain ⟨fd, F⟩ := c.t.d.def_ 25 (d := d__law_rising_around) rfl
  exact ⟨fd, F, He.glo_ok KX NS (c.t.d.fact 25 (f := .glo "_law_rising_around") rfl)⟩
theorem std__law_is_arc {w : World} {K : PySem.W.Frag} {h : Heap} {mg : Str → Option Value} (KX : K.In h) (NS : h.Ns mainGlobals mg) (c : He.SaysX fas fns [] [] exb w h K) : ∃ fd, Std K mg "_law_is_arc" s__law_is_arc [] (He.ga K "_law_is_arc") fd := by
  obtain ⟨fd, F⟩ := c.t.d.def_ 26 (d := d__law_is_arc) rfl
  exact ⟨fd, F, He.glo_ok KX NS (c.t.d.fact 26 (f := .glo "_law_is_arc") rfl)⟩
theorem std_law {w : World} {K : PySem.W.Frag} {h : Heap} {mg : Str → Option Value} (KX : K.In h) (NS : h.Ns mainGlobals mg) (c : He.SaysX fas fns [] [] exb w h K) : ∃ fd, Std K mg "law" s_law [] (He.ga K "law") fd := by
  obtain ⟨fd, F⟩ := c.t.d.def_ 27 (d := d_law) rfl
  exact ⟨fd, F, He.glo_ok KX NS (c.t.d.fact 27 (f := .glo "law") rfl)⟩
abbrev Rw : PySem.W.OpenRow := PySem.W.OpenLaw.row PySem.Challenge.rw_wheelturns_k07_whole_cyclic_order
abbrev hk : PySem.W.Hook := He.hookX 4 fas fns [] [] exb
def obs (s : PySem.W.SharedT) : He.AlX := He.obsX 4 fas fns [] [] exb (HandSHeadRun.getT s)
theorem obs_eq (s : PySem.W.SharedT) : obs s = hk.obs s.abs := He.obsX_eq (HandSHeadRun.getT_eq s)
theorem top_run (w : World) : HandSHeadRun.RunEq Rw (PySem.W.view Rw.prog [lawAt]) hk obs 6000 loose w := by
  intro os
  kernel_rfl
theorem facts {P : Program} {w : World} {K : PySem.W.Frag} {h : Heap} {mg : Str → Option Value} {f : Addr} (KX : K.In h) (NS : h.Ns mainGlobals mg) (hf : mg ("law" : Str) = some (.ref f)) (c : He.SaysX fas fns [] [] exb w h K) :
    ∃ fd : FuncData, (∀ (s : Shared) (v : Value), BindsTo s fd ⟨[v], []⟩ [("_law_script_here", v)]) ∧ ∀ base : Heap, K.In base → base.Ns mainGlobals mg → FnOk P w K mg base CX0 6 f fd pr_law (spLaw K) := by
  have GB := gb KX NS c
  obtain ⟨fd_is_integer, S_is_integer⟩ := std_is_integer KX NS c
  obtain ⟨fd_is_lengths, S_is_lengths⟩ := std_is_lengths KX NS c
  obtain ⟨fd_need_lengths, S_need_lengths⟩ := std_need_lengths KX NS c
  obtain ⟨fd_is_turn, S_is_turn⟩ := std_is_turn KX NS c
  obtain ⟨fd_is_script, S_is_script⟩ := std_is_script KX NS c
  obtain ⟨fd_need_script, S_need_script⟩ := std_need_script KX NS c
  obtain ⟨fd_need_row, S_need_row⟩ := std_need_row KX NS c
  obtain ⟨fd_next_row, S_next_row⟩ := std_next_row KX NS c
  obtain ⟨fd_after_turn, S_after_turn⟩ := std_after_turn KX NS c
  obtain ⟨fd_after_script, S_after_script⟩ := std_after_script KX NS c
  obtain ⟨fd_ends_of, S_ends_of⟩ := std_ends_of KX NS c
  obtain ⟨fd_need_all, S_need_all⟩ := std_need_all KX NS c
  obtain ⟨fd_columns_after, S_columns_after⟩ := std_columns_after KX NS c
  obtain ⟨fd_kept, S_kept⟩ := std_kept KX NS c
  obtain ⟨fd_leading_to, S_leading_to⟩ := std_leading_to KX NS c
  obtain ⟨fd_difference, S_difference⟩ := std_difference KX NS c
  obtain ⟨fd_idle_turns, S_idle_turns⟩ := std_idle_turns KX NS c
  obtain ⟨fd__law_cell_at, S__law_cell_at⟩ := std__law_cell_at KX NS c
  obtain ⟨fd__law_draws, S__law_draws⟩ := std__law_draws KX NS c
  obtain ⟨fd__law_bag, S__law_bag⟩ := std__law_bag KX NS c
  obtain ⟨fd__law_bags, S__law_bags⟩ := std__law_bags KX NS c
  obtain ⟨fd__law_take, S__law_take⟩ := std__law_take KX NS c
  obtain ⟨fd__law_lengths, S__law_lengths⟩ := std__law_lengths KX NS c
  obtain ⟨fd__law_turns, S__law_turns⟩ := std__law_turns KX NS c
  obtain ⟨fd__law_script, S__law_script⟩ := std__law_script KX NS c
  obtain ⟨fd__law_rising_around, S__law_rising_around⟩ := std__law_rising_around KX NS c
  obtain ⟨fd__law_is_arc, S__law_is_arc⟩ := std__law_is_arc KX NS c
  obtain ⟨fd_law, S_law⟩ := std_law KX NS c
  have e := hf.symm.trans S_law.gl
  cases e
  refine ⟨fd_law, fun s v => ?_, fun base _ _ => ?_⟩
  · exact FunD.bindsA (ps := pr_law) S_law.fn (fun _ _ _ _ _ _ us hl => match us, hl with | [_], _ => rfl) s [v] rfl
  have D_is_integer := ok_is_integer (P := P) (w := w) (base := base) GB S_is_integer 
  have D_is_lengths := ok_is_lengths (P := P) (w := w) (base := base) GB S_is_lengths D_is_integer
  have D_need_lengths := ok_need_lengths (P := P) (w := w) (base := base) GB S_need_lengths D_is_lengths
  have D_is_turn := ok_is_turn (P := P) (w := w) (base := base) GB S_is_turn 
  have D_is_script := ok_is_script (P := P) (w := w) (base := base) GB S_is_script D_is_turn
  have D_need_script_1 := ok_need_script (P := P) (w := w) (base := base) GB S_need_script D_is_script
  have D_need_row := ok_need_row (P := P) (w := w) (base := base) GB S_need_row D_is_integer
  have D_next_row := ok_next_row (P := P) (w := w) (base := base) GB S_next_row 
  have D_after_turn := ok_after_turn (P := P) (w := w) (base := base) GB S_after_turn D_next_row
  have D_after_script := ok_after_script (P := P) (w := w) (base := base) GB S_after_script D_after_turn
  have D_ends_of := ok_ends_of (P := P) (w := w) (base := base) GB S_ends_of D_after_script
  have D_need_all := ok_need_all (P := P) (w := w) (base := base) GB S_need_all D_need_lengths D_need_row D_need_script_1
  have D_columns_after := ok_columns_after (P := P) (w := w) (base := base) GB S_columns_after D_need_all D_ends_of
  have D_kept := ok_kept (P := P) (w := w) (base := base) GB S_kept D_need_all D_ends_of
  have D_leading_to := ok_leading_to (P := P) (w := w) (base := base) GB S_leading_to D_need_all D_is_integer D_ends_of
  have D_difference := ok_difference (P := P) (w := w) (base := base) GB S_difference D_need_all D_need_script_1 D_ends_of
  have D_idle_turns := ok_idle_turns (P := P) (w := w) (base := base) GB S_idle_turns D_need_all D_ends_of
  have D__law_cell_at := ok_cell_at (P := P) (w := w) (base := base) GB S__law_cell_at 
  have D__law_draws := ok_draws (P := P) (w := w) (base := base) GB S__law_draws 
  have D__law_bag := ok_bag (P := P) (w := w) (base := base) GB S__law_bag D__law_cell_at D__law_draws
  have D__law_bags := ok_bags (P := P) (w := w) (base := base) GB S__law_bags D__law_bag
  have D__law_take := ok_take (P := P) (w := w) (base := base) GB S__law_take 
  have D__law_lengths := ok_lengths (P := P) (w := w) (base := base) GB S__law_lengths D__law_take
  have D__law_turns := ok_turns (P := P) (w := w) (base := base) GB S__law_turns 
  have D__law_script := ok_script (P := P) (w := w) (base := base) GB S__law_script D__law_take D__law_turns
  have D__law_rising_around := ok_rising (P := P) (w := w) (base := base) GB S__law_rising_around 
  have D__law_is_arc := ok_is_arc (P := P) (w := w) (base := base) GB S__law_is_arc 
  exact ok_law GB S_law D__law_bags D__law_take D__law_lengths D__law_script D_columns_after D__law_rising_around D_leading_to D__law_is_arc D_kept D_idle_turns D_difference
end WT
open PySem PySem.W PyProof.Rows
set_option maxHeartbeats 0 in
theorem PySem.Challenge.cw_wheelturns_k07_whole_cyclic_order_holds : PySem.Challenge.rw_wheelturns_k07_whole_cyclic_order.Holds := by
  w_on; o_law
  refine HandSHeadRun.head_any (r := WT.Rw) (q := view WT.Rw.prog [WT.lawAt]) (H := WT.hk) (ob := WT.obs) (M := 6000) (loose := WT.loose) (d := HandSHeadRun.topDef WT.Rw.prog WT.lawAt) (kwd := []) WT.obs_eq
    (by kernel_rfl) (fun s => by kernel_rfl) WT.top_run (by kernel_rfl) (by kernel_rfl) (by kernel_rfl) (by rfl) (by first | assumption | decide +kernel) (by decide +kernel) ⟨rfl, rfl, rfl, rfl, rfl, by decide +kernel⟩ ?hw ?hc
  case hw => w_witness2
  case hc =>
    refine L2.walk_ofE (l := PySem.Challenge.rw_wheelturns_k07_whole_cyclic_order) (n := 63) (k := 6) (x := "_law_script_here") (CX := L2.CX0) rfl (by decide) (by kernel_rfl) ⟨rfl, by decide, by decide⟩ ?F (fun _ _ _ _ z => z)
    intro w mg fa h Y NS hm0
    obtain ⟨K, KX, c⟩ := Y
    have hm : mg ("law" : PySem.Str) = some (.ref fa) := by
      have e : (HandSHeadRun.topDef WT.Rw.prog WT.lawAt).name = ("law" : PySem.Str) := by kernel_rfl
      rw [← e]
      exact hm0
    obtain ⟨fd, hb, hF⟩ := WT.facts (P := (PySem.Challenge.rw_wheelturns_k07_whole_cyclic_order).prog) (w := w) KX NS hm c
    exact ⟨K, fd, WT.spLaw K, KX, hb, fun H a ns hl _ hS => ⟨a, ns, rfl, hS, fun _ => rfl⟩, hF⟩
