import PyProof.Rows.All
import Wide.All
import OpenK.AllK
import Wide.FinOn
import HandS.ForMost
import HandS.ForExc
import HandS.Codes
import HandS.IsInst
import HandS.Flow
import HandS.Walk
import HandS.Conv
import HandS.EndBits
import KE.GoesEnum
import HandS.ExcInit
import HandS.ExcField
import HandS.TupAny
import HandS.More
import HandS.WordsDict
import HandS.Sort
import KE.SortData
import PyProof.RowDictHeap
import PyProof.ReprRoads
import HandS.Ends
import PyProof.ReprLen
import PyProof.Rows.ReprShort
import HandS.Finally
import KE.RegKIsAll
import PySem.Challenge.RW_firstmet_k25_pattern_names
set_option Elab.async false
set_option linter.all false
set_option maxRecDepth 100000
set_option maxHeartbeats 8000000
/-! Firstmet: short words over the hand layer: a def by its name, heaps that keep what stood, data. -/
namespace Fm
open PySem PySem.Spec PyProof.Rows L2
/-! ### a def of the top, by its name -/
def Dfn (K : PySem.W.Frag) (mg : Str → Option Value) (x : Str) (st : Stmt) (ps : List Str) : Prop :=
  ∃ f fd, Fun K x x st f fd ∧ mg x = some (.ref f) ∧ Binds K fd ps []
def Has (P : Program) (w : World) (K : PySem.W.Frag) (mg : Str → Option Value) (base : Heap) (CX : CXT) (x : Str) (ps : List Str) (k : Nat) (sp : Sp) : Prop :=
  ∃ f fd, FnOk P w K mg base CX k f fd ps sp ∧ mg x = some (.ref f) ∧ PySem.W.keepIn K (.ref f) = true ∧ Binds K fd ps []
section
variable {P : Program} {w : World} {K : PySem.W.Frag} {mg : Str → Option Value} {base : Heap}
theorem Dfn.has {x : Str} {st : Stmt} {N ps : List Str} {k : Nat} {sp : Sp} (D : Dfn K mg x st ps) (S : FnScope N ps (defScope st)) (len : ∀ vs H Q E, sp vs H Q E → vs.length = ps.length)
    (body : ∀ (f : Addr) (cdv : Value) (A : Around) (outer : List Env) (s : Shared) (H : Hp) (vs : List V) (Q : VK) (E : XK), Room k (A.deeper (envOfC x (defScope st) s.heap.objs.size f cdv)) → sp vs H Q E →
      ∃ t, PSs (cxOf CX0 P w K mg base N x (defScope st) f cdv A outer s H E).nox (defBody st) t ∧ t { nx := fun _ H' => Q .non H', rt := Q } (start N vs) H) :
    Has P w K mg base CX0 x ps (k + 1) sp := by
  obtain ⟨f, fd, F, g, b⟩ := D
  exact ⟨f, fd, F.ok S len (fun cdv A outer s H vs Q E => body f cdv A outer s H vs Q E), g, F.kp, b⟩
theorem Dfn.hasX {x : Str} {st : Stmt} {N ps : List Str} {k : Nat} {sp : Sp} (D : Dfn K mg x st ps) (S : FnScope N ps (defScope st)) (len : ∀ vs H Q E, sp vs H Q E → vs.length = ps.length)
    (body : ∀ (f : Addr) (cdv : Value) (A : Around) (outer : List Env) (s : Shared) (H : Hp) (vs : List V) (Q : VK) (E : XK), Room k (A.deeper (envOfC x (defScope st) s.heap.objs.size f cdv)) → sp vs H Q E →
      ∃ t, PSs (cxOf (L2.CX P w) P w K mg base N x (defScope st) f cdv A outer s H E) (defBody st) t ∧ t { nx := fun _ H' => Q .non H', rt := Q } (start N vs) H) :
    Has P w K mg base (L2.CX P w) x ps (k + 1) sp := by
  obtain ⟨f, fd, F, g, b⟩ := D
  exact ⟨f, fd, F.okX S len (fun cdv A outer s H vs Q E => body f cdv A outer s H vs Q E), g, F.kp, b⟩
theorem Has.mono {CX : CXT} {x : Str} {ps : List Str} {j k : Nat} {sp : Sp} (h : Has P w K mg base CX x ps j sp) (hj : j ≤ k) : Has P w K mg base CX x ps k sp := by
  obtain ⟨f, fd, F, r⟩ := h
  exact ⟨f, fd, F.mono hj, r⟩
theorem Has.imp {CX : CXT} {x : Str} {ps : List Str} {k : Nat} {sp sp' : Sp} (h : Has P w K mg base CX x ps k sp) (i : ∀ vs H Q E, sp' vs H Q E → sp vs H Q E) : Has P w K mg base CX x ps k sp' := by
  obtain ⟨f, fd, F, r⟩ := h
  exact ⟨f, fd, F.imp i, r⟩
end
/-- f(e, ..), f a def that raises nothing -/
theorem pe_has {X : Cx} {k : Nat} {x : Str} {ps : List Str} {sp : Sp} {e : Expr} {es : List Expr} {t : TA} {p pos : Pos} (h : Has X.prog X.w X.K X.mg X.base CX0 x ps k sp) (hr : Room k X.A) (ha : PA X (e :: es) t) (hg : Gl X x := by rfl)
    (hdb : (x == ("__debug__" : Str)) = false := by decide) (he : starEach (e :: es) X.env = (false, eval e X.env) :: starEach es X.env := by rfl) (hpl : (backTo pos (starEach es X.env)).any (·.1) = false := by rfl) :
    PE X (.Call (.Name x p) (e :: es) [] pos) (tCall sp [] E0 t) := by
  obtain ⟨f, fd, F, g, kp, b⟩ := h
  exact pe_call F hr hg g kp b .nil pass0 ha hdb he hpl
/-! ### heaps -/
/-- all that stood stands, but for what is at ms; tuples stand in any case -/
structure Kp (ms : List Addr) (H H' : Hp) : Prop where
  at_ : ∀ a o, H a = some o → a ∉ ms → H' a = some o
  tp : ∀ a xs, H a = some (.tup xs) → H' a = some (.tup xs)
theorem Kp.refl {ms : List Addr} (H : Hp) : Kp ms H H := ⟨fun _ _ h _ => h, fun _ _ h => h⟩
theorem Kp.trans {ms : List Addr} {H H1 H2 : Hp} (a : Kp ms H H1) (b : Kp ms H1 H2) : Kp ms H H2 := ⟨fun c o h n => b.at_ c o (a.at_ c o h n) n, fun c xs h => b.tp c xs (a.tp c xs h)⟩
theorem Kp.mono {ms ms' : List Addr} {H H' : Hp} (a : Kp ms H H') (h : ∀ x ∈ ms, x ∈ ms') : Kp ms' H H' := ⟨fun c o e n => a.at_ c o e fun z => n (h c z), a.tp⟩
theorem Kp.zero {ms : List Addr} {H H' : Hp} (a : Kp [] H H') : Kp ms H H' := a.mono fun _ h => nomatch h
theorem Kp.same {H H' : Hp} (a : Kp [] H H') : Same H H' := fun b o e => a.at_ b o e (fun z => nomatch z)
theorem Kp.new {ms : List Addr} {H : Hp} {p : Addr} {o : HO} (h : H p = none) : Kp ms H (upd H p o) :=
  ⟨fun _ _ e _ => (upd_ne (ne_of_none e h)).trans e, fun _ _ e => (upd_ne (ne_of_none e h)).trans e⟩
theorem Kp.snoc {ms : List Addr} {H H' : Hp} {p : Addr} {o : HO} (a : Kp ms H H') (h : H' p = none) : Kp ms H (upd H' p o) := a.trans (Kp.new h)
theorem Kp.late {ms : List Addr} {H H' : Hp} {p : Addr} {o : HO} (a : Kp ms H H') (h : H p = none) : Kp ms H (L2.upd H' p o) :=
  ⟨fun b u e n => (upd_ne (ne_of_none e h)).trans (a.at_ b u e n), fun b xs e => (upd_ne (ne_of_none e h)).trans (a.tp b xs e)⟩
theorem Kp.set {ms : List Addr} {H : Hp} {p : Addr} {o o' : HO} (e : H p = some o) (hn : ∀ xs, o ≠ .tup xs) (hm : p ∈ ms) : Kp ms H (upd H p o') :=
  ⟨fun b u h n => (upd_ne (fun z => n (by rw [z]; exact hm))).trans h, fun b xs h => (upd_ne (fun z => by rw [z, e] at h; exact hn xs (Option.some.inj h))).trans h⟩
theorem Kp.updL {ms : List Addr} {H : Hp} {p : Addr} {ys : List V} {o' : HO} (e : H p = some (.lst ys)) (hm : p ∈ ms) : Kp ms H (L2.upd H p o') := Kp.set e (fun _ z => by cases z) hm
theorem Kp.free {ms : List Addr} {H H' : Hp} {p : Addr} (a : Kp ms H H') (h : H' p = Option.none) (hm : ∀ x ∈ ms, ∃ o, H' x = some o) : H p = Option.none := by
  cases e : H p with
  | none => rfl
  | some o =>
    by_cases z : p ∈ ms
    · obtain ⟨o', h'⟩ := hm p z
      rw [h'] at h
      cases h
    · rw [a.at_ p o e z] at h
      cases h
theorem upd_upd {H : Hp} {a : Addr} {o o' : HO} : upd (upd H a o) a o' = upd H a o' := by
  funext b
  by_cases z : b = a
  · rw [z, upd_same, upd_same]
  · rw [upd_ne z, upd_ne z, upd_ne z]
theorem upd_comm {H : Hp} {a b : Addr} {o u : HO} (n : a ≠ b) : upd (upd H a o) b u = upd (upd H b u) a o := by
  funext c
  by_cases z : c = a
  · rw [z, upd_ne n, upd_same, upd_same]
  · by_cases y : c = b
    · rw [y, upd_same, upd_ne (Ne.symm n), upd_same]
    · rw [upd_ne y, upd_ne z, upd_ne z, upd_ne y]
/-! ### names of the built-ins -/
structure Bi (mg : Str → Option Value) : Prop where
  len : mg "len" = none
  list : mg "list" = none
  tuple : mg "tuple" = none
  isinstance : mg "isinstance" = none
  int : mg "int" = none
  range : mg "range" = none
  max : mg "max" = none
  all : mg "all" = none
  bool : mg "bool" = none
  dict : mg "dict" = none
  str : mg "str" = none
  enumerate : mg "enumerate" = none
/-! ### the bag of draws -/
structure Bag (H : Hp) (b c : Addr) : Prop where
  bg : ∃ i z m n k : Int, H b = some (.lst [.ref c, .int i, .int z, .int m, .int n, .int k]) ∧ 0 ≤ i ∧ 0 ≤ z
  cl : ∃ cs : List Int, H c = some (.lst (cs.map V.int)) ∧ cs.length ≤ 63
theorem Bag.ne {H : Hp} {b c : Addr} (B : Bag H b c) : c ≠ b := fun z => by
  obtain ⟨⟨i, z', m, n, k, h, _⟩, ⟨cs, h2, _⟩⟩ := B
  rw [z, h] at h2
  cases cs with
  | nil => cases h2
  | cons x r => cases h2
theorem Bag.keep {H H' : Hp} {b c : Addr} {ms : List Addr} (B : Bag H b c) (k : Kp ms H H') (hb : b ∉ ms) (hc : c ∉ ms) : Bag H' b c := by
  obtain ⟨⟨i, z', m, n, k', h, hi⟩, ⟨cs, h2, hl⟩⟩ := B
  exact ⟨⟨i, z', m, n, k', k.at_ _ _ h hb, hi⟩, ⟨cs, k.at_ _ _ h2 hc, hl⟩⟩
theorem Bag.keep0 {H H' : Hp} {b c : Addr} (B : Bag H b c) (k : Kp [] H H') : Bag H' b c := B.keep k (fun z => nomatch z) (fun z => nomatch z)
theorem Bag.someB {H : Hp} {b c : Addr} (B : Bag H b c) : ∃ o, H b = some o := let ⟨_, _, _, _, _, h, _⟩ := B.bg; ⟨_, h⟩
theorem Bag.someC {H : Hp} {b c : Addr} (B : Bag H b c) : ∃ o, H c = some o := let ⟨_, h, _⟩ := B.cl; ⟨_, h⟩
theorem Kp.freeB {H H' : Hp} {b c p : Addr} (a : Kp [b] H H') (B : Bag H' b c) (h : H' p = Option.none) : H p = Option.none :=
  a.free h fun x hx => by
    have e : x = b := by simpa using hx
    rw [e]; exact B.someB
end Fm

namespace Fm
open PySem PySem.Spec PyProof.Rows L2
def topS (i : Nat) : Stmt := PySem.Challenge.pw_firstmet_k25_pattern_names.main.body.getD i (.Pass ⟨0, 0, 0, 0⟩)
abbrev s_BadPattern_init : Stmt := inClass (topS 2) 0
abbrev N_BadPattern_init : List Str := ["self", "at"]
theorem sc_BadPattern_init : FnScope ["self", "at"] ["self", "at"] (defScope s_BadPattern_init) := ⟨rfl, rfl, rfl, by decide +kernel, rfl, by decide +kernel, by decide +kernel⟩
abbrev s_is_row : Stmt := topS 6
abbrev N_is_row : List Str := ["thing"]
theorem sc_is_row : FnScope ["thing"] ["thing"] (defScope s_is_row) := ⟨rfl, rfl, rfl, by decide +kernel, rfl, by decide +kernel, by decide +kernel⟩
abbrev s_is_integer : Stmt := topS 7
abbrev N_is_integer : List Str := ["thing"]
theorem sc_is_integer : FnScope ["thing"] ["thing"] (defScope s_is_integer) := ⟨rfl, rfl, rfl, by decide +kernel, rfl, by decide +kernel, by decide +kernel⟩
abbrev s_is_value : Stmt := topS 8
abbrev N_is_value : List Str := ["thing"]
theorem sc_is_value : FnScope ["thing"] ["thing"] (defScope s_is_value) := ⟨rfl, rfl, rfl, by decide +kernel, rfl, by decide +kernel, by decide +kernel⟩
abbrev s_is_name : Stmt := topS 9
abbrev N_is_name : List Str := ["thing", "letter"]
theorem sc_is_name : FnScope ["thing", "letter"] ["thing"] (defScope s_is_name) := ⟨rfl, rfl, rfl, by decide +kernel, rfl, by decide +kernel, by decide +kernel⟩
abbrev s_checked_rows : Stmt := topS 13
abbrev N_checked_rows : List Str := ["rows", "checked", "row", "table", "symbols", "symbol"]
theorem sc_checked_rows : FnScope ["rows", "checked", "row", "table", "symbols", "symbol"] ["rows"] (defScope s_checked_rows) := ⟨rfl, rfl, rfl, by decide +kernel, rfl, by decide +kernel, by decide +kernel⟩
abbrev s_names_in_order : Stmt := topS 14
abbrev N_names_in_order : List Str := ["rows", "names", "table", "symbols", "symbol"]
theorem sc_names_in_order : FnScope ["rows", "names", "table", "symbols", "symbol"] ["rows"] (defScope s_names_in_order) := ⟨rfl, rfl, rfl, by decide +kernel, rfl, by decide +kernel, by decide +kernel⟩
abbrev s_renamed : Stmt := topS 15
abbrev N_renamed : List Str := ["symbols", "names", "symbol"]
theorem sc_renamed : FnScope ["symbols", "names", "symbol"] ["symbols", "names"] (defScope s_renamed) := ⟨rfl, rfl, rfl, by decide +kernel, rfl, by decide +kernel, by decide +kernel⟩
abbrev s_renamed_rows : Stmt := topS 16
abbrev N_renamed_rows : List Str := ["rows", "names", "table", "symbols"]
theorem sc_renamed_rows : FnScope ["rows", "names", "table", "symbols"] ["rows", "names"] (defScope s_renamed_rows) := ⟨rfl, rfl, rfl, by decide +kernel, rfl, by decide +kernel, by decide +kernel⟩
abbrev s_is_group : Stmt := topS 17
abbrev N_is_group : List Str := ["group", "names", "symbol"]
theorem sc_is_group : FnScope ["group", "names", "symbol"] ["group", "names"] (defScope s_is_group) := ⟨rfl, rfl, rfl, by decide +kernel, rfl, by decide +kernel, by decide +kernel⟩
abbrev s_is_powers : Stmt := topS 18
abbrev N_is_powers : List Str := ["powers", "names", "name"]
theorem sc_is_powers : FnScope ["powers", "names", "name"] ["powers", "names"] (defScope s_is_powers) := ⟨rfl, rfl, rfl, by decide +kernel, rfl, by decide +kernel, by decide +kernel⟩
abbrev s_Pattern_init : Stmt := inClass (topS 19) 0
abbrev N_Pattern_init : List Str := ["self", "rows", "group", "powers", "checked", "names", "name"]
theorem sc_Pattern_init : FnScope ["self", "rows", "group", "powers", "checked", "names", "name"] ["self", "rows", "group", "powers"] (defScope s_Pattern_init) := ⟨rfl, rfl, rfl, by decide +kernel, rfl, by decide +kernel, by decide +kernel⟩
abbrev s_Pattern_eq : Stmt := inClass (topS 19) 1
abbrev N_Pattern_eq : List Str := ["self", "other"]
theorem sc_Pattern_eq : FnScope ["self", "other"] ["self", "other"] (defScope s_Pattern_eq) := ⟨rfl, rfl, rfl, by decide +kernel, rfl, by decide +kernel, by decide +kernel⟩
abbrev s__law_bag : Stmt := topS 21
abbrev N__law_bag : List Str := ["_law_script"]
theorem sc__law_bag : FnScope ["_law_script"] ["_law_script"] (defScope s__law_bag) := ⟨rfl, rfl, rfl, by decide +kernel, rfl, by decide +kernel, by decide +kernel⟩
abbrev s__law_pick : Stmt := topS 22
abbrev N__law_pick : List Str := ["_law_bag_here", "_law_many", "_law_cell", "_law_found", "_law_one"]
theorem sc__law_pick : FnScope ["_law_bag_here", "_law_many", "_law_cell", "_law_found", "_law_one"] ["_law_bag_here", "_law_many"] (defScope s__law_pick) := ⟨rfl, rfl, rfl, by decide +kernel, rfl, by decide +kernel, by decide +kernel⟩
abbrev s__law_name : Stmt := topS 23
abbrev N__law_name : List Str := ["_law_bag_here", "_law_taken", "_law_letters", "_law_word", "_law_stem", "_law_k"]
theorem sc__law_name : FnScope ["_law_bag_here", "_law_taken", "_law_letters", "_law_word", "_law_stem", "_law_k"] ["_law_bag_here", "_law_taken"] (defScope s__law_name) := ⟨rfl, rfl, rfl, by decide +kernel, rfl, by decide +kernel, by decide +kernel⟩
abbrev s__law_value : Stmt := topS 24
abbrev N__law_value : List Str := ["_law_bag_here", "_law_number"]
theorem sc__law_value : FnScope ["_law_bag_here", "_law_number"] ["_law_bag_here"] (defScope s__law_value) := ⟨rfl, rfl, rfl, by decide +kernel, rfl, by decide +kernel, by decide +kernel⟩
abbrev s__law_tables : Stmt := topS 25
abbrev N__law_tables : List Str := ["_law_bag_here", "_law_taken", "_law_tables_here", "_law_k", "_law_name_here", "_law_fields", "_law_j"]
theorem sc__law_tables : FnScope ["_law_bag_here", "_law_taken", "_law_tables_here", "_law_k", "_law_name_here", "_law_fields", "_law_j"] ["_law_bag_here"] (defScope s__law_tables) := ⟨rfl, rfl, rfl, by decide +kernel, rfl, by decide +kernel, by decide +kernel⟩
abbrev s__law_pool : Stmt := topS 26
abbrev N__law_pool : List Str := ["_law_bag_here", "_law_texts", "_law_first", "_law_step", "_law_k"]
theorem sc__law_pool : FnScope ["_law_bag_here", "_law_texts", "_law_first", "_law_step", "_law_k"] ["_law_bag_here"] (defScope s__law_pool) := ⟨rfl, rfl, rfl, by decide +kernel, rfl, by decide +kernel, by decide +kernel⟩
abbrev s__law_pattern : Stmt := topS 27
abbrev N__law_pattern : List Str := ["_law_bag_here", "_law_tables_here", "_law_most", "_law_pool_here", "_law_spread", "_law_rows", "_law_used", "_law_k", "_law_table", "_law_symbols", "_law_field", "_law_group", "_law_powers"]
theorem sc__law_pattern : FnScope ["_law_bag_here", "_law_tables_here", "_law_most", "_law_pool_here", "_law_spread", "_law_rows", "_law_used", "_law_k", "_law_table", "_law_symbols", "_law_field", "_law_group", "_law_powers"] ["_law_bag_here", "_law_tables_here", "_law_most"] (defScope s__law_pattern) := ⟨rfl, rfl, rfl, by decide +kernel, rfl, by decide +kernel, by decide +kernel⟩
abbrev s__law_due : Stmt := topS 28
abbrev N__law_due : List Str := ["_law_rows", "_law_group", "_law_powers", "_law_names", "_law_made", "_law_table", "_law_symbols", "_law_told", "_law_symbol", "_law_name_here"]
theorem sc__law_due : FnScope ["_law_rows", "_law_group", "_law_powers", "_law_names", "_law_made", "_law_table", "_law_symbols", "_law_told", "_law_symbol", "_law_name_here"] ["_law_rows", "_law_group", "_law_powers"] (defScope s__law_due) := ⟨rfl, rfl, rfl, by decide +kernel, rfl, by decide +kernel, by decide +kernel⟩
abbrev s__law_same : Stmt := topS 29
abbrev N__law_same : List Str := ["_law_actual", "_law_due_here", "_law_k"]
theorem sc__law_same : FnScope ["_law_actual", "_law_due_here", "_law_k"] ["_law_actual", "_law_due_here"] (defScope s__law_same) := ⟨rfl, rfl, rfl, by decide +kernel, rfl, by decide +kernel, by decide +kernel⟩
abbrev s__law_turned : Stmt := topS 30
abbrev N__law_turned : List Str := ["_law_rows", "_law_group", "_law_powers", "_law_pool_here", "_law_names", "_law_table", "_law_symbols", "_law_symbol", "_law_turned_here", "_law_told", "_law_name_here"]
theorem sc__law_turned : FnScope ["_law_rows", "_law_group", "_law_powers", "_law_pool_here", "_law_names", "_law_table", "_law_symbols", "_law_symbol", "_law_turned_here", "_law_told", "_law_name_here"] ["_law_rows", "_law_group", "_law_powers", "_law_pool_here"] (defScope s__law_turned) := ⟨rfl, rfl, rfl, by decide +kernel, rfl, by decide +kernel, by decide +kernel⟩
abbrev s__law_changed : Stmt := topS 31
abbrev N__law_changed : List Str := ["_law_bag_here", "_law_rows", "_law_group", "_law_powers", "_law_kind", "_law_made", "_law_told", "_law_worths", "_law_used", "_law_table", "_law_symbols", "_law_name_here", "_law_symbol"]
theorem sc__law_changed : FnScope ["_law_bag_here", "_law_rows", "_law_group", "_law_powers", "_law_kind", "_law_made", "_law_told", "_law_worths", "_law_used", "_law_table", "_law_symbols", "_law_name_here", "_law_symbol"] ["_law_bag_here", "_law_rows", "_law_group", "_law_powers"] (defScope s__law_changed) := ⟨rfl, rfl, rfl, by decide +kernel, rfl, by decide +kernel, by decide +kernel⟩
abbrev s__law_formed : Stmt := topS 32
abbrev N__law_formed : List Str := ["_law_bag_here", "_law_row"]
theorem sc__law_formed : FnScope ["_law_bag_here", "_law_row"] ["_law_bag_here", "_law_row"] (defScope s__law_formed) := ⟨rfl, rfl, rfl, by decide +kernel, rfl, by decide +kernel, by decide +kernel⟩
abbrev s__law_given : Stmt := topS 33
abbrev N__law_given : List Str := ["_law_bag_here", "_law_rows", "_law_group", "_law_powers", "_law_given_here", "_law_table", "_law_symbols"]
theorem sc__law_given : FnScope ["_law_bag_here", "_law_rows", "_law_group", "_law_powers", "_law_given_here", "_law_table", "_law_symbols"] ["_law_bag_here", "_law_rows", "_law_group", "_law_powers"] (defScope s__law_given) := ⟨rfl, rfl, rfl, by decide +kernel, rfl, by decide +kernel, by decide +kernel⟩
abbrev s__law_is : Stmt := topS 34
abbrev N__law_is : List Str := ["_law_pattern_here", "_law_due_here"]
theorem sc__law_is : FnScope ["_law_pattern_here", "_law_due_here"] ["_law_pattern_here", "_law_due_here"] (defScope s__law_is) := ⟨rfl, rfl, rfl, by decide +kernel, rfl, by decide +kernel, by decide +kernel⟩
abbrev s_law : Stmt := topS 35
abbrev N_law : List Str := ["_law_script", "_law_bag_here", "_law_rows", "_law_group", "_law_powers", "_law_due_here", "_law_given_here", "_law_kept", "_law_pattern_here", "_law_table", "_law_symbols", "_law_turned_here", "_law_twin", "_law_changed_here", "_law_third", "_law_alike"]
theorem sc_law : FnScope ["_law_script", "_law_bag_here", "_law_rows", "_law_group", "_law_powers", "_law_due_here", "_law_given_here", "_law_kept", "_law_pattern_here", "_law_table", "_law_symbols", "_law_turned_here", "_law_twin", "_law_changed_here", "_law_third", "_law_alike"] ["_law_script"] (defScope s_law) := ⟨rfl, rfl, rfl, by decide +kernel, rfl, by decide +kernel, by decide +kernel⟩
end Fm

namespace Fm
open PySem PySem.Spec PyProof.Rows L2
/-! ### bag and pick -/
def spBag (K : PySem.W.Frag) : Sp := fun vs H Q _ => ∃ (a : Addr) (ns : List Int), vs = [.ref a] ∧ SqL K H a (ns.map V.int) ∧
  ∀ b c H', Kp [] H H' → H b = none → H c = none → Bag H' b c → Q (.ref b) H'
def spPick : Sp := fun vs H Q _ => ∃ (b c : Addr) (many : Int), vs = [.ref b, .int many] ∧ Bag H b c ∧ 0 < many ∧ many < 1073741824 ∧
  ∀ (r : Int) (H' : Hp), 0 ≤ r → r < many → Bag H' b c → Kp [b] H H' → Q (.int r) H'
section
variable {P : Program} {w : World} {K : PySem.W.Frag} {mg : Str → Option Value} {base : Heap}
theorem ok_bag (B : Bi mg) (D : Dfn K mg "_law_bag" s__law_bag ["_law_script"]) : Has P w K mg base CX0 "_law_bag" ["_law_script"] 1 (spBag K) := by
  refine D.has sc__law_bag (fun vs H Q E h => ?_) (fun f cdv A outer s H vs Q E hr h => ?_)
  · obtain ⟨a, ns, rfl, _⟩ := h; rfl
  · obtain ⟨a, ns, rfl, hS, k⟩ := h
    refine ⟨_, pss_one (ps_ret (pe_lst (pa_cons (pe_callTy call_list_of (by rfl) B.list (by decide +kernel) (pa_cons (pe_slice sl_list (pv 0) po_none (po_some pe_int)) pa_nil)) (pa_cons pe_int (pa_cons pe_int (pa_cons pe_int (pa_cons pe_int (pa_cons pe_int pa_nil)))))))), ?_⟩
    refine ⟨_, rfl, 63, rfl, a, _, rfl, hS, fun p np => ?_⟩
    refine ⟨p, _, rfl, .inl (SqL.of upd_same), fun c nc => ?_⟩
    refine ⟨by show 6 ≤ sizeLine; decide, fun b nb => ?_⟩
    obtain ⟨cs, e, hl⟩ : ∃ cs : List Int, cutV (ns.map V.int) none (some 63) = cs.map V.int ∧ cs.length ≤ 63 := by
      refine ⟨ns.take (min 63 ns.length), ?_, ?_⟩
      · have e1 : HT.sIx (ns.map V.int).length (ns.map V.int).length (some 63) = min 63 (ns.map V.int).length := HT.sIx_nat _ _ 63
        unfold cutV
        rw [e1, HT.sIx_none, List.drop_zero, Nat.sub_zero, List.length_map, List.map_take]
      · rw [List.length_take]; omega
    have n1 : H c = none := by
      have := nc
      by_cases z : c = p
      · rw [z]; exact np
      · rw [upd_ne z] at nc; exact nc
    have cb : c ≠ b := fun z => by rw [← z, upd_same] at nb; cases nb
    refine k b c _ (((Kp.new np).snoc nc).snoc nb) ?_ n1 ⟨⟨0, 0, 0, 0, 0, upd_same, by decide, by decide⟩, ⟨cs, ?_, hl⟩⟩
    · by_cases z : b = c
      · rw [z]; exact n1
      · rw [upd_ne z] at nb
        by_cases y : b = p
        · rw [y]; exact np
        · rw [upd_ne y] at nb; exact nb
    · rw [upd_ne cb, upd_same, e]
theorem emod_lt' {a n : Int} (h : 0 < n) : a % n < n := Int.emod_lt_of_pos a h
theorem ok_pick (B : Bi mg) (D : Dfn K mg "_law_pick" s__law_pick ["_law_bag_here", "_law_many"]) : Has P w K mg base CX0 "_law_pick" ["_law_bag_here", "_law_many"] 1 spPick := by
  refine D.has sc__law_pick (fun vs H Q E h => ?_) (fun f cdv A outer s H vs Q E hr h => ?_)
  · obtain ⟨b, c, m, rfl, _⟩ := h; rfl
  · obtain ⟨b, c, many, rfl, BG, m0, m1, k⟩ := h
    obtain ⟨⟨i, z, m, n, q, hb, hi, hz⟩, ⟨cs, hc, hl⟩⟩ := id BG
    have ncb := BG.ne
    have hu := hu_of hr
    refine ⟨_, (pss_cons (ps_asg (pe_op op_add (pe_ix ix_list (pv 0) pe_int (fun _ _ => rfl)) pe_int) (pg_sub (pv 0) pe_int set_list))
  (C8.pss_cut (ps_if (PW.pt (pw_and (pt_cmpR op_eq (pe_ix ix_list (pv 0) pe_int (fun _ _ => rfl)) pe_int (nomark _)) (pw_and (pt_cmpR op_eq (pe_ix ix_list (pv 0) pe_int (fun _ _ => rfl)) pe_int (nomark _)) (pw_and1 (pt_cmpR op_lt (pe_ix ix_list (pv 0) pe_int (fun _ _ => rfl)) (pe_callB call_len (by rfl) B.len PySem.boot_len (pa_cons (pe_ix ix_list (pv 0) pe_int (fun _ _ => rfl)) pa_nil)) (nomark _))))))
  (pss_cons (ps_set (i := 2) sc__law_pick.nd rfl (by first | exact Or.inl rfl | exact Or.inr rfl) (pe_ix ix_list (pe_ix ix_list (pv 0) pe_int (fun _ _ => rfl)) (pe_ix ix_list (pv 0) pe_int (fun _ _ => rfl)) (fun _ _ => rfl)))
  (pss_cons (ps_asg (pe_op op_add (pe_ix ix_list (pv 0) pe_int (fun _ _ => rfl)) pe_int) (pg_sub (pv 0) pe_int set_list))
  (pss_one (ps_if (pt_cmpR op_ge (pv 2) (pe_op op_pow pe_int pe_int) (nomark _))
  (pss_one (ps_asg (pv 2) (pg_sub (pv 0) pe_int set_list)))
  (pss_cons (ps_asg (pe_op op_mod (pe_callTy call_int1 (by rfl) B.int (by decide +kernel) (pa_cons (pe_op op_add (pe_op op_add (pe_op op_mul (pe_ix ix_list (pv 0) pe_int (fun _ _ => rfl)) pe_int) (pv 2)) pe_int) pa_nil)) pe_int) (pg_sub (pv 0) pe_int set_list))
  (pss_one (ps_asg pe_int (pg_sub (pv 0) pe_int set_list))))))))
  pss_nil)
  (C8.pss_cut (ps_if (pt_cmpR op_gt (pe_ix ix_list (pv 0) pe_int (fun _ _ => rfl)) pe_int (nomark _))
  (pss_cons (ps_set (i := 3) sc__law_pick.nd rfl (by first | exact Or.inl rfl | exact Or.inr rfl) (pe_op op_mod (pe_callTy call_int1 (by rfl) B.int (by decide +kernel) (pa_cons (pe_ix ix_list (pv 0) pe_int (fun _ _ => rfl)) pa_nil)) (pv 1)))
  (pss_cons (ps_asg (pe_op op_fdiv (pe_ix ix_list (pv 0) pe_int (fun _ _ => rfl)) (pv 1)) (pg_sub (pv 0) pe_int set_list))
  (pss_one (ps_ret (pv 3)))))
  pss_nil)
  (pss_cons (ps_asg (pe_callB (call_max2 rfl) (by rfl) B.max (by decide +kernel) (pa_cons pe_int (pa_cons (pe_op op_sub (pe_ix ix_list (pv 0) pe_int (fun _ _ => rfl)) pe_int) pa_nil))) (pg_sub (pv 0) pe_int set_list))
  (pss_cons (ps_set (i := 4) sc__law_pick.nd rfl (by first | exact Or.inl rfl | exact Or.inr rfl) (pe_op op_mod (pe_callTy call_int1 (by rfl) B.int (by decide +kernel) (pa_cons (pe_op op_mul (pe_op op_add (pe_op op_add (pe_ix ix_list (pv 0) pe_int (fun _ _ => rfl)) (pe_op op_mul pe_int (pe_ix ix_list (pv 0) pe_int (fun _ _ => rfl)))) pe_int) pe_int) pa_nil)) pe_int))
  (pss_cons (ps_set (i := 4) sc__law_pick.nd rfl (by first | exact Or.inl rfl | exact Or.inr rfl) (pe_op op_mod (pe_callTy call_int1 (by rfl) B.int (by decide +kernel) (pa_cons (pe_op op_mul (pv 4) (pe_op op_add (pe_op op_fdiv (pv 4) pe_int) pe_int)) pa_nil)) pe_int))
  (pss_cons (ps_set (i := 4) sc__law_pick.nd rfl (by first | exact Or.inl rfl | exact Or.inr rfl) (pe_op op_mod (pe_callTy call_int1 (by rfl) B.int (by decide +kernel) (pa_cons (pe_op op_mul (pv 4) (pe_op op_add (pe_op op_fdiv (pv 4) pe_int) pe_int)) pa_nil)) pe_int))
  (pss_one (ps_ret (pe_op op_mod (pe_callTy call_int1 (by rfl) B.int (by decide +kernel) (pa_cons (pe_op op_fdiv (pv 4) pe_int) pa_nil)) (pv 1))))))))))), ?_⟩
    -- bag[4] = bag[4] + 1
    refine ⟨_, rfl, b, _, _, _, rfl, rfl, SqL.of hb, rfl, _, _, rfl, rfl, _, rfl, b, _, _, _, rfl, rfl, hb, rfl, ?_⟩
    -- the join behind the first if
    refine ⟨fun σ H' => ∃ (i z m n q : Int) (v : Option V), σ = [some (.ref b), some (.int many), v, none, none] ∧ 0 ≤ i ∧ 0 ≤ z ∧ H' = upd H b (.lst [.ref c, .int i, .int z, .int m, .int n, .int q]), ?_, ?_⟩
    · have h1 : ∀ L, (upd H b L) b = some L := fun L => upd_same
      have hcc : ∀ L, (upd H b L) c = some (.lst (cs.map V.int)) := fun L => by rw [upd_ne ncb]; exact hc
      have fin : ∀ (n : Int), ∃ (i' z' m' n' q' : Int) (v : Option V), ([some (.ref b), some (.int many), none, none, none] : L2.St) = [some (.ref b), some (.int many), v, none, none] ∧ 0 ≤ i' ∧ 0 ≤ z' ∧ upd H b (.lst [.ref c, .int i, .int z, .int m, .int n, .int q]) = upd H b (.lst [.ref c, .int i', .int z', .int m', .int n', .int q']) := fun n => ⟨i, z, m, n, q, none, rfl, hi, hz, rfl⟩
      refine ⟨_, rfl, b, _, _, _, rfl, rfl, SqL.of upd_same, rfl, rfl, _, rfl, ?_⟩
      refine ite2 (fun hz0 => ?_) (fun _ => fin _)
      refine ⟨_, rfl, b, _, _, _, rfl, rfl, SqL.of upd_same, rfl, rfl, _, rfl, ?_⟩
      refine ite2 (fun hq0 => ?_) (fun _ => fin _)
      refine ⟨_, rfl, b, _, _, _, rfl, rfl, SqL.of upd_same, rfl, _, rfl, b, _, _, _, rfl, rfl, SqL.of upd_same, rfl, _, _, rfl, .inl ⟨_, SqL.of (hcc _), rfl⟩, _, _, rfl, rfl, _, rfl, ?_⟩
      refine ite2 (fun hlt => ?_) (fun _ => fin _)
      rw [List.length_map] at hlt
      have hlt' : i < (cs.length : Int) := of_decide_eq_true hlt
      obtain ⟨y, hy⟩ : ∃ y, cs[i.toNat]? = some y := ⟨cs[i.toNat]'(by omega), List.getElem?_eq_getElem (by omega)⟩
      have hat : atI (cs.map V.int) i = some (V.int y) := by
        unfold atI ixN
        rw [List.length_map, if_pos hi, if_pos hlt']
        simp [hy]
      -- cell = bag[0][bag[1]]; bag[1] = bag[1] + 1
      refine ⟨_, rfl, b, _, _, _, rfl, rfl, SqL.of upd_same, rfl, _, rfl, b, _, _, _, rfl, rfl, SqL.of upd_same, rfl, c, _, _, _, rfl, rfl, SqL.of (hcc _), hat, ?_⟩
      refine ⟨_, rfl, b, _, _, _, rfl, rfl, SqL.of upd_same, rfl, _, _, rfl, rfl, _, rfl, b, _, _, _, rfl, rfl, upd_same, rfl, ?_⟩
      refine ⟨_, rfl, _, _, rfl, rfl, ⟨by decide, by decide, by decide⟩, _, _, rfl, rfl, _, rfl, ?_⟩
      refine ite2 (fun hbig => ?_) (fun _ => ?_)
      · refine ⟨_, rfl, _, rfl, b, _, _, _, rfl, rfl, upd_same, rfl, ?_⟩
        have hy0 : 0 ≤ y := by
          have := of_decide_eq_true hbig
          have e : (10 : Int) ^ (18 : Int).toNat = 1000000000000000000 := by decide
          rw [e] at this
          omega
        refine ⟨i + 1, y, m, n + 1, q, _, rfl, by omega, hy0, ?_⟩
        rw [upd_upd, upd_upd]
        rfl
      · refine ⟨_, rfl, b, _, _, _, rfl, rfl, SqL.of upd_same, rfl, _, _, rfl, rfl, .inr ⟨by decide, by decide⟩, _, rfl, _, _, rfl, rfl, _, _, rfl, rfl, .inl ⟨_, rfl, _, _, rfl, rfl, (by show (0 : Int) < 2147483647; decide), _, rfl, b, _, _, _, rfl, rfl, upd_same, rfl, ?_⟩⟩
        refine ⟨_, rfl, b, _, _, _, rfl, rfl, upd_same, rfl, ?_⟩
        refine ⟨i + 1, z, (m * 69621 + y + 12345) % 2147483647, n + 1, 6, _, rfl, by omega, hz, ?_⟩
        rw [upd_upd, upd_upd, upd_upd]
        rfl
    · clear hb hz hi hl
      rintro σ' H' ⟨i, z, m, n, q, v, rfl, hi, hz, rfl⟩
      have h1 : ∀ L, (upd H b L) b = some L := fun L => upd_same
      have kp : ∀ L, Kp [b] H (upd H b L) := fun L => by
        obtain ⟨_, _, _, _, _, hb, _⟩ := BG.bg
        exact Kp.updL hb (by simp)
      have bag : ∀ i z m n q : Int, 0 ≤ i → 0 ≤ z → Bag (upd H b (.lst [.ref c, .int i, .int z, .int m, .int n, .int q])) b c := fun i z m n q hi hz => by
        obtain ⟨cs, hc, hl⟩ := BG.cl
        exact ⟨⟨i, z, m, n, q, upd_same, hi, hz⟩, ⟨cs, by rw [upd_ne ncb]; exact hc, hl⟩⟩
      refine ⟨fun σ H' => σ = [some (.ref b), some (.int many), v, none, none] ∧ H' = upd H b (.lst [.ref c, .int i, .int z, .int m, .int n, .int q]), ?_, ?_⟩
      · refine ⟨_, rfl, b, _, _, _, rfl, rfl, SqL.of upd_same, rfl, _, _, rfl, rfl, _, rfl, ?_⟩
        refine ite2 (fun _ => ?_) (fun _ => ⟨rfl, rfl⟩)
        refine ⟨_, rfl, b, _, _, _, rfl, rfl, SqL.of upd_same, rfl, .inl ⟨_, rfl, _, rfl, _, _, rfl, rfl, m0, ?_⟩⟩
        refine ⟨_, rfl, b, _, _, _, rfl, rfl, SqL.of upd_same, rfl, _, rfl, _, _, rfl, rfl, ⟨m0, m1⟩, _, rfl, b, _, _, _, rfl, rfl, upd_same, rfl, ?_⟩
        refine ⟨_, rfl, ?_⟩
        rw [upd_upd]
        exact k _ _ (Int.emod_nonneg _ (by omega)) (Int.emod_lt_of_pos _ m0) (bag _ _ _ _ _ hi (Int.ediv_nonneg hz (by omega))) (kp _)
      · rintro σ' H' ⟨rfl, rfl⟩
        refine ⟨_, rfl, b, _, _, _, rfl, rfl, SqL.of upd_same, rfl, _, _, rfl, rfl, _, _, rfl, _, rfl, b, _, _, _, rfl, rfl, upd_same, rfl, ?_⟩
        rw [upd_upd]
        refine ⟨_, rfl, b, _, _, _, rfl, rfl, SqL.of upd_same, rfl, _, rfl, b, _, _, _, rfl, rfl, SqL.of upd_same, rfl, _, _, rfl, rfl, .inl ⟨by decide, by decide⟩, _, _, rfl, rfl, _, _, rfl, rfl, _, _, rfl, rfl, .inr ⟨by decide, by decide⟩, .inl ⟨_, rfl, _, _, rfl, rfl, (by show (0 : Int) < 2147483647; decide), ?_⟩⟩
        generalize hx : ((m + 7919 * n + 1) * 48271) % 2147483647 = x
        have x0 : 0 ≤ x := hx ▸ Int.emod_nonneg _ (by decide)
        have x1 : x < 2147483647 := hx ▸ Int.emod_lt_of_pos _ (by decide)
        refine ⟨_, rfl, _, rfl, _, _, rfl, rfl, ⟨by decide, by decide⟩, _, _, rfl, rfl, _, _, rfl, rfl, .inl ⟨by omega, by omega⟩, .inl ⟨_, rfl, _, _, rfl, rfl, (by show (0 : Int) < 2147483647; decide), ?_⟩⟩
        generalize hy : (x * (x / 1009 + 69621)) % 2147483647 = y
        have y0 : 0 ≤ y := hy ▸ Int.emod_nonneg _ (by decide)
        have y1 : y < 2147483647 := hy ▸ Int.emod_lt_of_pos _ (by decide)
        refine ⟨_, rfl, _, rfl, _, _, rfl, rfl, ⟨by decide, by decide⟩, _, _, rfl, rfl, _, _, rfl, rfl, .inl ⟨by omega, by omega⟩, .inl ⟨_, rfl, _, _, rfl, rfl, (by show (0 : Int) < 2147483399; decide), ?_⟩⟩
        refine ⟨_, rfl, _, _, rfl, rfl, ⟨by decide, by decide⟩, .inl ⟨_, rfl, _, rfl, _, _, rfl, rfl, m0, ?_⟩⟩
        exact k _ _ (Int.emod_nonneg _ (by omega)) (Int.emod_lt_of_pos _ m0) (bag _ _ _ _ _ hi hz) (kp _)
end
end Fm

namespace Fm
open PySem PySem.Spec PyProof.Rows L2
/-! ### names -/
/-- a text of 1 to 8 letters a to z -/
def IsNm (w : Str) : Prop := 1 ≤ w.length ∧ w.length ≤ 8 ∧ ∀ c ∈ w.cps.toList, 97 ≤ c ∧ c ≤ 122
def abc : Str := "abcdefghijklmnopqrstuvwxyz"
theorem abc_at : ∀ n : Nat, n < 26 → abc.cps.toList[n]? = some (97 + n) := by decide +kernel
theorem abc_size : abc.cps.toList.length = 26 := by decide +kernel
theorem abc_len : abc.length = 26 := by decide +kernel
theorem abc_ix {r : Int} (h0 : 0 ≤ r) (h1 : r < 26) : atI abc.cps.toList r = some (97 + r.toNat) := by
  unfold atI ixN
  rw [abc_size, if_pos h0, if_pos (by omega)]
  exact abc_at r.toNat (by omega)
theorem one_nm {c : Nat} (h : 97 ≤ c ∧ c ≤ 122) : ∀ d ∈ (⟨#[c]⟩ : Str).cps.toList, 97 ≤ d ∧ d ≤ 122 := by
  intro d hd
  have e : d = c := by simpa using hd
  rw [e]; exact h
theorem join_ones : ∀ cs : List Nat, Str.join ⟨#[]⟩ (cs.map fun c => (⟨#[c]⟩ : Str)) = ⟨cs.toArray⟩
  | [] => rfl
  | [c] => rfl
  | c :: d :: r => by
    have ih := join_ones (d :: r)
    show (⟨#[c]⟩ : Str) ++ ⟨#[]⟩ ++ Str.join ⟨#[]⟩ ((d :: r).map fun c => (⟨#[c]⟩ : Str)) = _
    rw [ih]
    refine ext_toList ?_
    show ((#[c] ++ #[]) ++ (d :: r).toArray).toList = _
    simp
theorem txt_join_ones (cs : List Nat) : PySem.Txt.join (Str.ofString "") (cs.map fun c => (⟨#[c]⟩ : Str)) = ⟨cs.toArray⟩ := by
  rw [show (Str.ofString "" : Str) = ⟨#[]⟩ by decide +kernel]
  rw [TL.join_eq]
  exact join_ones cs
theorem sum_ones : ∀ cs : List Nat, ((cs.map fun c => (⟨#[c]⟩ : Str)).map (·.length)).sum = cs.length
  | [] => rfl
  | c :: r => by
    have ih := sum_ones r
    show 1 + ((r.map fun c => (⟨#[c]⟩ : Str)).map (·.length)).sum = r.length + 1
    rw [ih]; omega
theorem inV_strs (w : Str) (ws : List Str) : inV (.str w) (ws.map V.str) = decide (w ∈ ws) := by
  unfold inV
  induction ws with
  | nil => rfl
  | cons a r ih =>
    rw [List.map_cons, List.any_cons, ih]
    show ((a == w) || decide (w ∈ r)) = _
    by_cases h : a = w
    · subst h; simp
    · have : ¬ w = a := fun z => h z.symm
      simp [h, this]
theorem flat_strs (ws : List Str) : (ws.map V.str).all flatV = true := by
  rw [List.all_eq_true]
  intro x hx
  obtain ⟨w, _, rfl⟩ := List.mem_map.mp hx
  rfl
theorem pigeon {α : Type} [DecidableEq α] : ∀ (l ws : List α), l.Nodup → (∀ x ∈ l, x ∈ ws) → l.length ≤ ws.length
  | [], _, _, _ => Nat.zero_le _
  | a :: l, ws, nd, h => by
    have ha : a ∈ ws := h a List.mem_cons_self
    have hn : a ∉ l := (List.nodup_cons.mp nd).1
    have ih := pigeon l (ws.erase a) (List.nodup_cons.mp nd).2 fun x hx => by
      have hxa : x ≠ a := fun z => hn (z ▸ hx)
      exact (List.mem_erase_of_ne hxa).mpr (h x (List.mem_cons_of_mem _ hx))
    have := List.length_erase_of_mem ha
    have hp : 0 < ws.length := List.length_pos_of_mem ha
    simp only [List.length_cons]
    omega
/-- the stem and one letter -/
def stemL (s : Str) (n : Nat) : Str := s ++ ⟨#[97 + n]⟩
theorem stemL_inj {s : Str} {m n : Nat} (h : stemL s m = stemL s n) : m = n := by
  have e : (stemL s m).cps.toList = (stemL s n).cps.toList := by rw [h]
  unfold stemL at e
  change (s.cps ++ #[97 + m]).toList = (s.cps ++ #[97 + n]).toList at e
  simp at e
  omega
theorem stems_nodup (s : Str) (n : Nat) : ((List.range n).map (stemL s)).Nodup := by
  rw [List.nodup_iff_pairwise_ne, List.pairwise_map]
  exact (List.nodup_range (n := n)).imp fun h z => h (stemL_inj z)
theorem stem_nm {s : Str} {n : Nat} (h7 : s.length ≤ 7) (hs : ∀ c ∈ s.cps.toList, 97 ≤ c ∧ c ≤ 122) (hn : n < 26) : IsNm (stemL s n) := by
  have hl : (stemL s n).length = s.length + 1 := by
    unfold stemL
    change (s.cps ++ #[97 + n]).size = s.cps.size + 1
    simp
  refine ⟨by omega, by omega, fun c hc => ?_⟩
  unfold stemL at hc
  change c ∈ (s.cps ++ #[97 + n]).toList at hc
  simp at hc
  rcases hc with hc | hc
  · exact hs c (by simpa using hc)
  · omega
theorem cut7 (w : Str) : (cutS w none (some 7)).length ≤ 7 ∧ ∀ c ∈ (cutS w none (some 7)).cps.toList, c ∈ w.cps.toList := by
  have e1 : HT.sIx w.length w.length (some 7) = min 7 w.length := HT.sIx_nat _ _ 7
  unfold cutS
  rw [e1, HT.sIx_none, List.drop_zero, Nat.sub_zero]
  refine ⟨?_, fun c hc => ?_⟩
  · change (List.take (min 7 w.length) w.cps.toList).toArray.size ≤ 7
    simp
    omega
  · exact List.mem_of_mem_take (by simpa using hc)
/-- the ways through the loop: while the words were taken, up to k letters -/
theorem all_taken {s : Str} {ws : List Str} (hw : ws.length ≤ 25) (h : ∀ j, j < 26 → stemL s j ∈ ws) : False := by
  have := pigeon ((List.range 26).map (stemL s)) ws (stems_nodup s 26) fun x hx => by
    obtain ⟨j, hj, rfl⟩ := List.mem_map.mp hx
    exact h j (List.mem_range.mp hj)
  rw [List.length_map, List.length_range] at this
  omega
theorem atI_of {α : Type} {xs : List α} {r : Int} {x : α} (h0 : 0 ≤ r) (h : xs[r.toNat]? = some x) : atI xs r = some x := by
  have hl : r.toNat < xs.length := (List.getElem?_eq_some_iff.mp h).1
  unfold atI ixN
  rw [if_pos h0, if_pos (by omega)]
  exact h
end Fm

namespace Fm
open PySem PySem.Spec PyProof.Rows L2
def spName : Sp := fun vs H Q _ => ∃ (b c t : Addr) (ws : List Str), vs = [.ref b, .ref t] ∧ Bag H b c ∧ H t = some (.lst (ws.map V.str)) ∧ t ≠ b ∧ t ≠ c ∧ ws.length ≤ 25 ∧
  ∀ (w : Str) (H' : Hp), IsNm w → w ∉ ws → Bag H' b c → H' t = some (.lst ((ws ++ [w]).map V.str)) → Kp [b, t] H H' → Q (.str w) H'
def menu8 : List Str := ["end", "put", "scan", "none", "of", "same", "table", "block"]
theorem menu8_nm : ∀ n : Nat, n < 8 → ∃ w, menu8[n]? = some w ∧ IsNm w := by
  intro n hn
  have : ∀ n : Fin 8, ∃ w, menu8[n.1]? = some w ∧ (1 ≤ w.length ∧ w.length ≤ 8 ∧ (w.cps.toList.all fun c => decide (97 ≤ c) && decide (c ≤ 122)) = true) := by
    intro n
    refine ⟨menu8[n.1]'(by have := n.2; show n.1 < 8; omega), by simp, ?_⟩
    revert n
    decide +kernel
  obtain ⟨w, h1, h2, h3, h4⟩ := this ⟨n, hn⟩
  refine ⟨w, h1, h2, h3, fun c hc => ?_⟩
  have := List.all_eq_true.mp h4 c hc
  simpa using this
section
variable {P : Program} {w : World} {K : PySem.W.Frag} {mg : Str → Option Value} {base : Heap}
theorem ok_name (B : Bi mg) (D : Dfn K mg "_law_name" s__law_name ["_law_bag_here", "_law_taken"]) (G_pick : Has P w K mg base CX0 "_law_pick" ["_law_bag_here", "_law_many"] 1 spPick) :
    Has P w K mg base CX0 "_law_name" ["_law_bag_here", "_law_taken"] 2 spName := by
  refine D.has sc__law_name (fun vs H Q E h => ?_) (fun f cdv A outer s H vs Q E hr h => ?_)
  · obtain ⟨b, c, t, ws, rfl, _⟩ := h; rfl
  · obtain ⟨b, c, t, ws, rfl, BG, ht, tb, tc, hw, k⟩ := h
    refine ⟨_, (pss_cons (ps_set (i := 2) sc__law_name.nd rfl (by first | exact Or.inl rfl | exact Or.inr rfl) pe_str)
  (C8.pss_cut (ps_if (pt_cmpR op_eq (pe_has G_pick hr (pa_cons (pv 0) (pa_cons pe_int pa_nil))) pe_int (nomark _))
  (pss_one (ps_set (i := 3) sc__law_name.nd rfl (by first | exact Or.inl rfl | exact Or.inr rfl) (pe_ix ix_list (pe_lst (pa_cons pe_str (pa_cons pe_str (pa_cons pe_str (pa_cons pe_str (pa_cons pe_str (pa_cons pe_str (pa_cons pe_str (pa_cons pe_str pa_nil))))))))) (pe_has G_pick hr (pa_cons (pv 0) (pa_cons pe_int pa_nil))) (fun _ _ => rfl))))
  (pss_one (ps_set (i := 3) sc__law_name.nd rfl (by first | exact Or.inl rfl | exact Or.inr rfl) (pe_join pe_str (pe_lc (own := [("_law_k", 5)]) (g := gName 5) (by rfl) sc__law_name.nd (pi_range1 rfl B.range (pa_cons (pe_op op_add pe_int (pe_has G_pick hr (pa_cons (pv 0) (pa_cons pe_int pa_nil)))) pa_nil)) (blkOk_by (own := [("_law_k", 5)]) (N := N__law_name) (sc := defScope s__law_name) (by decide +kernel)) (fun _ _ _ _ _ => (pg_name (i := 5) sc__law_name.nd rfl (by first | exact Or.inl rfl | exact Or.inr rfl))) (fun _ _ _ _ _ => pts_nil) (fun _ _ _ _ _ => (pe_ix ix_str (pv 2) (pe_has G_pick hr (pa_cons (pv 0) (pa_cons pe_int pa_nil))) (fun _ _ => rfl))))))))
  (pss_cons (ps_set (i := 4) sc__law_name.nd rfl (by first | exact Or.inl rfl | exact Or.inr rfl) (pe_slice sl_str (pv 3) po_none (po_some pe_int)))
  (C8.pss_cut (ps_for PassesOwn.never rfl (pi_range1 rfl B.range (pa_cons pe_int pa_nil)) (pg_name (i := 5) sc__law_name.nd rfl (by first | exact Or.inl rfl | exact Or.inr rfl))
  (pss_cons (ps_if (pt_cmpR op_notIn_seq (pv 3) (pv 1) (by rfl))
  (pss_one ps_break)
  pss_nil)
  (pss_one (ps_set (i := 3) sc__law_name.nd rfl (by first | exact Or.inl rfl | exact Or.inr rfl) (pe_op op_add_str (pv 4) (pe_ix ix_str (pv 2) (pv 5) (fun _ _ => rfl)))))))
  (pss_cons (ps_expr (pe_bm PySem.F.plainAttrs_list PySem.F.slot_list_append PySem.F.type_list_append mt_append (pv 1) (pa_cons (pv 3) pa_nil)))
  (pss_one (ps_ret (pv 3)))))))), ?_⟩
    -- the word drawn
    refine ⟨fun σ H' => ∃ w0 : Str, σ = [some (.ref b), some (.ref t), some (.str abc), some (.str w0), none, none] ∧ IsNm w0 ∧ Bag H' b c ∧ Kp [b] H H', ?_, ?_⟩
    · refine ⟨_, rfl, b, c, 12, rfl, BG, by decide, by decide, fun r H1 r0 r1 B1 k1 => ?_⟩
      refine ⟨rfl, _, rfl, ?_⟩
      refine ite2 (fun _ => ?_) (fun _ => ?_)
      · refine ⟨by show 8 ≤ sizeLine; decide, fun p np => ?_⟩
        have k2 := k1.snoc (o := .lst (menu8.map V.str)) np
        refine ⟨_, rfl, b, c, 8, rfl, B1.keep0 (Kp.new np), by decide, by decide, fun r H2 r0 r1 B2 k3 => ?_⟩
        have np' : H2 p = some (.lst (menu8.map V.str)) := k3.at_ p _ upd_same (fun z => by
          have e : p = b := by simpa using z
          obtain ⟨o, ho⟩ := B1.someB
          rw [← e, np] at ho; cases ho)
        obtain ⟨x, hx, nx⟩ := menu8_nm r.toNat (by omega)
        refine ⟨p, _, r, .str x, rfl, rfl, SqL.of np', atI_of r0 (by rw [List.getElem?_map, hx]; rfl), ?_⟩
        exact ⟨x, rfl, nx, B2, k2.trans k3⟩
      · refine ⟨⟨_, rfl⟩, ?_⟩
        refine ⟨_, rfl, b, c, 8, rfl, B1, by decide, by decide, fun r H2 r0 r1 B2 k2 => ?_⟩
        refine ⟨_, _, rfl, rfl, 1 + r, rfl, by omega, by omega, fun D hD => ?_⟩
        have kD := (k1.trans k2).snoc (o := .lst []) hD
        have Db : D ≠ b := fun z => by
          obtain ⟨o, ho⟩ := B2.someB
          rw [← z, hD] at ho; cases ho
        have Dc : D ≠ c := fun z => by
          obtain ⟨o, ho⟩ := B2.someC
          rw [← z, hD] at ho; cases ho
        have hDH : H D = none := by
          cases e : H D with
          | none => rfl
          | some o => rw [(k1.trans k2).at_ D o e (by simpa using Db)] at hD; cases hD
        refine lc_range (lo := 0) (n := (1 + r).toNat) (fun i H' => ∃ cs : List Nat, cs.length = i ∧ (∀ x ∈ cs, 97 ≤ x ∧ x ≤ 122) ∧ H' D = some (.lst (cs.map fun x => V.str ⟨#[x]⟩)) ∧ Bag H' b c ∧ Kp [b] H H')
          ⟨[], rfl, (fun x h => nomatch h), upd_same, B2.keep0 (Kp.new hD), kD⟩ ?_ ?_
        · rintro i H3 hi ⟨cs, hl, hc, h3, B3, k3⟩
          refine ⟨rfl, _, rfl, _, rfl, b, c, 26, rfl, B3, by decide, by decide, fun q H4 q0 q1 B4 k4 => ?_⟩
          have h4 : H4 D = some (.lst (cs.map fun x => V.str ⟨#[x]⟩)) := k4.at_ D _ h3 (by simpa using Db)
          refine ⟨abc, q, _, rfl, rfl, by rw [abc_len]; decide, abc_ix q0 q1, _, h4, ?_, ?_⟩
          · rw [List.length_map]; exact small1000 (by omega)
          · refine ⟨cs ++ [97 + q.toNat], by simp [hl], fun x hx => ?_, by rw [upd_same]; simp, ?_, (k3.trans k4).late hDH⟩
            · rcases List.mem_append.mp hx with h | h
              · exact hc x h
              · have e : x = 97 + q.toNat := by simpa using h
                omega
            · exact B4.keep (ms := [D]) (Kp.updL h4 (by simp)) (by simpa using Ne.symm Db) (by simpa using Ne.symm Dc)
        · rintro H3 ⟨cs, hl, hc, h3, B3, k3⟩
          refine ⟨_, D, cs.map fun x => (⟨#[x]⟩ : Str), rfl, rfl, .inl (SqL.of (by rw [h3, List.map_map]; rfl)), ?_, ?_⟩
          · rw [sum_ones, List.length_map, show (Str.ofString "").length = 0 by decide +kernel]
            omega
          · refine ⟨_, rfl, ?_, B3, k3⟩
            rw [txt_join_ones]
            refine ⟨?_, ?_, fun x hx => hc x (by simpa using hx)⟩
            · show 1 ≤ cs.toArray.size
              simp; omega
            · show cs.toArray.size ≤ 8
              simp; omega
    · rintro σ' H1 ⟨w0, rfl, n0, B1, k1⟩
      have ht1 : H1 t = some (.lst (ws.map V.str)) := k1.at_ t _ ht (by simpa using tb)
      obtain ⟨s7, sn⟩ := cut7 w0
      generalize hst : cutS w0 none (some 7) = st at s7 sn
      have sn' : ∀ c ∈ st.cps.toList, 97 ≤ c ∧ c ≤ 122 := fun c hc => n0.2.2 c (sn c hc)
      refine ⟨_, rfl, 7, rfl, w0, rfl, Nat.le_trans n0.2.1 (by decide), ?_⟩
      show C8.tCut _ _ _ _ _
      refine ⟨fun σ H' => ∃ (x : Str) (v : Option V), σ = [some (.ref b), some (.ref t), some (.str abc), some (.str x), some (.str st), v] ∧ IsNm x ∧ x ∉ ws ∧ H' = H1, ?_, ?_⟩
      · refine ⟨26, rfl, by decide, by decide, ?_⟩
        refine for_range (lo := 0) (n := 26) (fun i σ H' => ∃ (x : Str) (v : Option V), σ = [some (.ref b), some (.ref t), some (.str abc), some (.str x), some (.str st), v] ∧ IsNm x ∧ H' = H1 ∧ (∀ j, j + 1 < i → stemL st j ∈ ws) ∧ (0 < i → x = stemL st (i - 1)))
          ⟨w0, none, by rw [← hst]; rfl, n0, rfl, fun j h => absurd h (by omega), fun h => absurd h (by omega)⟩ ?_ ?_
        · rintro i σ H' hi ⟨x, v, rfl, nx, rfl, hj, hx⟩
          refine ⟨_, rfl, _, rfl, t, _, rfl, .inl (SqL.of ht1), rfl, flat_strs ws, _, rfl, ?_⟩
          rw [inV_strs]
          by_cases hm : x ∈ ws
          · rw [decide_eq_true hm]
            refine iteF ?_
            refine ⟨_, rfl, _, rfl, _, rfl, abc, _, _, rfl, rfl, by rw [abc_len]; decide, abc_ix (r := 0 + (i : Int)) (by omega) (by omega), _, _, rfl, rfl, ?_, ?_⟩
            · show st.length + 1 ≤ sizeLine
              exact Nat.le_trans (Nat.succ_le_succ s7) (by decide)
            · refine ⟨stemL st i, some (.int (0 + (i : Int))), ?_, stem_nm s7 sn' (by omega), rfl, fun j h => ?_, fun _ => rfl⟩
              · have e : (0 + (i : Int)).toNat = i := by omega
                rw [e]
                rfl
              · by_cases e : j + 1 < i
                · exact hj j e
                · have e2 : j = i - 1 := by omega
                  rw [e2, ← hx (by omega)]
                  exact hm
          · rw [decide_eq_false hm]
            refine iteT ?_
            exact ⟨x, _, rfl, nx, hm, rfl⟩
        · rintro σ H' ⟨x, v, rfl, nx, rfl, hj, hx⟩
          refine ⟨x, v, rfl, nx, fun hm => all_taken (s := st) hw fun j h => ?_, rfl⟩
          by_cases e : j + 1 < 26
          · exact hj j e
          · have e2 : j = 25 := by omega
            have := hx (by decide)
            rw [e2, ← this]
            exact hm
      · rintro σ' H' ⟨x, v, rfl, nx, nm, rfl⟩
        refine ⟨_, rfl, .inl ⟨rfl, _, SqL.of ht1⟩, _, rfl, t, _, _, rfl, rfl, ht1, by rw [List.length_map]; exact small1000 (by omega), ?_⟩
        refine ⟨_, rfl, ?_⟩
        refine k x _ nx nm (B1.keep (ms := [t]) (Kp.updL ht1 (by simp)) (by simpa using Ne.symm tb) (by simpa using Ne.symm tc)) (by rw [upd_same]; simp) ?_
        exact (k1.mono (by simp)).trans (Kp.updL ht1 (by simp))
end
end Fm

namespace Fm
open PySem PySem.Spec PyProof.Rows L2
/-! ### data in the heap: v tells d, at most n deep; with q = true no dict in it is locked -/
def keyD : Key → PyData
  | .inl i => .int i
  | .inr x => .str x
def DkAt (q : Bool) (H : Hp) (a : Addr) (kvs : List (Key × V)) : Prop := if q = true then H a = some (.dK kvs) else Rd H a (.dK kvs)
mutual
inductive Dt (S : Addr → Prop) (q : Bool) (H : Hp) : Nat → V → PyData → Prop
  | non {n : Nat} : Dt S q H n .non .none
  | bl {n : Nat} (b : Bool) : Dt S q H n (.bl b) (.bool b)
  | int {n : Nat} (i : Int) : Dt S q H n (.int i) (.int i)
  | str {n : Nat} (x : Str) (h : x.length ≤ 1000000) : Dt S q H n (.str x) (.str x)
  | lst {n : Nat} {a : Addr} {xs : List V} {ds : List PyData} : Rd H a (.lst xs) → xs.length ≤ 1000000 ∧ S a → DtAll S q H n xs ds → Dt S q H (n + 1) (.ref a) (.list ds)
  | tup {n : Nat} {a : Addr} {xs : List V} {ds : List PyData} : H a = some (.tup xs) → xs.length ≤ 1000000 ∧ S a → DtAll S q H n xs ds → Dt S q H (n + 1) (.ref a) (.tuple ds)
  | dic {n : Nat} {a : Addr} {kvs : List (Key × V)} {ds : List (PyData × PyData)} : DkAt q H a kvs → (kvs.length ≤ 1000000 ∧ (kvs.map (·.1)).Nodup) ∧ S a → DtKV S q H n kvs ds → Dt S q H (n + 1) (.ref a) (.dict ds)
inductive DtAll (S : Addr → Prop) (q : Bool) (H : Hp) : Nat → List V → List PyData → Prop
  | nil {n : Nat} : DtAll S q H n [] []
  | cons {n : Nat} {v : V} {vs : List V} {d : PyData} {ds : List PyData} : Dt S q H n v d → DtAll S q H n vs ds → DtAll S q H n (v :: vs) (d :: ds)
inductive DtKV (S : Addr → Prop) (q : Bool) (H : Hp) : Nat → List (Key × V) → List (PyData × PyData) → Prop
  | nil {n : Nat} : DtKV S q H n [] []
  | cons {n : Nat} {k : Key} {v : V} {vs : List (Key × V)} {d : PyData} {ds : List (PyData × PyData)} : Dt S q H n v d → DtKV S q H n vs ds → DtKV S q H n ((k, v) :: vs) ((keyD k, d) :: ds)
end
/-- what stood stands, or is locked now -/
def Sm (H H' : Hp) : Prop := ∀ a o, H a = some o → H' a = some o ∨ (∃ ob, H' a = some (.frz ob o)) ∧ (∀ ob u, o ≠ .frz ob u) ∧ ∀ xs, o ≠ .tup xs
theorem Sm.rd {H H' : Hp} (s : Sm H H') {a : Addr} {u : HO} (r : Rd H a u) : Rd H' a u := by
  rcases r with r | ⟨o, r⟩
  · rcases s a u r with h | ⟨⟨ob, h⟩, _⟩
    · exact .inl h
    · exact .inr ⟨ob, h⟩
  · rcases s a _ r with h | ⟨_, h⟩
    · exact .inr ⟨o, h⟩
    · exact absurd rfl (h.1 o u)
theorem Sm.tup {H H' : Hp} (s : Sm H H') {a : Addr} {xs : List V} (r : H a = some (.tup xs)) : H' a = some (.tup xs) := by
  rcases s a _ r with h | ⟨_, _, h⟩
  · exact h
  · exact absurd rfl (h xs)
theorem Kp.sm {H H' : Hp} (k : Kp [] H H') : Sm H H' := fun a o e => .inl (k.at_ a o e (fun z => nomatch z))
theorem Sm.lock {H : Hp} {d : Addr} {u : HO} {od : Obj} (e : H d = some u) (hu : ∀ ob x, u ≠ .frz ob x) (hv : ∀ xs, u ≠ .tup xs) : Sm H (upd H d (.frz od u)) := fun a o h => by
  by_cases z : a = d
  · rw [z, e] at h
    cases h
    exact .inr ⟨⟨od, by rw [z, upd_same]⟩, hu, hv⟩
  · exact .inl (by rw [upd_ne z]; exact h)
mutual
theorem Dt.sm {S : Addr → Prop} {H H' : Hp} (s : Sm H H') : ∀ {n : Nat} {v : V} {d : PyData}, Dt S false H n v d → Dt S false H' n v d
  | _, _, _, .non => .non
  | _, _, _, .bl b => .bl b
  | _, _, _, .int b => .int b
  | _, _, _, .str b h => .str b h
  | _, _, _, .lst r l a => .lst (s.rd r) l (DtAll.sm s a)
  | _, _, _, .tup r l a => .tup (s.tup r) l (DtAll.sm s a)
  | _, _, _, .dic r l a => .dic (show DkAt false H' _ _ from s.rd (show Rd H _ _ from r)) l (DtKV.sm s a)
theorem DtAll.sm {S : Addr → Prop} {H H' : Hp} (s : Sm H H') : ∀ {n : Nat} {v : List V} {d : List PyData}, DtAll S false H n v d → DtAll S false H' n v d
  | _, _, _, .nil => .nil
  | _, _, _, .cons a b => .cons (Dt.sm s a) (DtAll.sm s b)
theorem DtKV.sm {S : Addr → Prop} {H H' : Hp} (s : Sm H H') : ∀ {n : Nat} {v : List (Key × V)} {d : List (PyData × PyData)}, DtKV S false H n v d → DtKV S false H' n v d
  | _, _, _, .nil => .nil
  | _, _, _, .cons a b => .cons (Dt.sm s a) (DtKV.sm s b)
end
theorem Kp.rd {ms : List Addr} {H H' : Hp} {a : Addr} {u : HO} (k : Kp ms H H') (hm : a ∉ ms) (r : Rd H a u) : Rd H' a u := by
  rcases r with r | ⟨o, r⟩
  · exact .inl (k.at_ _ _ r hm)
  · exact .inr ⟨o, k.at_ _ _ r hm⟩
theorem rd_keep {H H' : Hp} {a : Addr} {u : HO} (s : ∀ o, H a = some o → H' a = some o) (r : Rd H a u) : Rd H' a u := by
  rcases r with r | ⟨o, r⟩
  · exact .inl (s _ r)
  · exact .inr ⟨o, s _ r⟩
mutual
theorem Dt.keep {S : Addr → Prop} {q : Bool} {H H' : Hp} (s : Kp [] H H') : ∀ {n : Nat} {v : V} {d : PyData}, Dt S q H n v d → Dt S q H' n v d
  | _, _, _, .non => .non
  | _, _, _, .bl b => .bl b
  | _, _, _, .int b => .int b
  | _, _, _, .str b h => .str b h
  | _, _, _, .lst r l a => .lst (s.rd (fun z => nomatch z) r) l (DtAll.keep s a)
  | _, _, _, .tup r l a => .tup (s.tp _ _ r) l (DtAll.keep s a)
  | _, _, _, .dic r l a => .dic (by
      unfold DkAt at r ⊢
      cases q with
      | true => exact s.at_ _ _ r (fun z => nomatch z)
      | false => exact s.rd (fun z => nomatch z) r) l (DtKV.keep s a)
theorem DtAll.keep {S : Addr → Prop} {q : Bool} {H H' : Hp} (s : Kp [] H H') : ∀ {n : Nat} {v : List V} {d : List PyData}, DtAll S q H n v d → DtAll S q H' n v d
  | _, _, _, .nil => .nil
  | _, _, _, .cons a b => .cons (Dt.keep s a) (DtAll.keep s b)
theorem DtKV.keep {S : Addr → Prop} {q : Bool} {H H' : Hp} (s : Kp [] H H') : ∀ {n : Nat} {v : List (Key × V)} {d : List (PyData × PyData)}, DtKV S q H n v d → DtKV S q H' n v d
  | _, _, _, .nil => .nil
  | _, _, _, .cons a b => .cons (Dt.keep s a) (DtKV.keep s b)
end
mutual
theorem Dt.keepS {S S' : Addr → Prop} {q : Bool} {H H' : Hp} (s : ∀ a o, S a → H a = some o → H' a = some o) (i : ∀ a, S a → S' a) : ∀ {n : Nat} {v : V} {d : PyData}, Dt S q H n v d → Dt S' q H' n v d
  | _, _, _, .non => .non
  | _, _, _, .bl b => .bl b
  | _, _, _, .int b => .int b
  | _, _, _, .str b h => .str b h
  | _, _, _, .lst r l a => .lst (rd_keep (fun o e => s _ o l.2 e) r) ⟨l.1, i _ l.2⟩ (DtAll.keepS s i a)
  | _, _, _, .tup r l a => .tup (s _ _ l.2 r) ⟨l.1, i _ l.2⟩ (DtAll.keepS s i a)
  | _, _, _, .dic r l a => .dic (by
      unfold DkAt at r ⊢
      cases q with
      | true => exact s _ _ l.2 r
      | false => exact rd_keep (fun o e => s _ o l.2 e) r) ⟨l.1, i _ l.2⟩ (DtKV.keepS s i a)
theorem DtAll.keepS {S S' : Addr → Prop} {q : Bool} {H H' : Hp} (s : ∀ a o, S a → H a = some o → H' a = some o) (i : ∀ a, S a → S' a) : ∀ {n : Nat} {v : List V} {d : List PyData}, DtAll S q H n v d → DtAll S' q H' n v d
  | _, _, _, .nil => .nil
  | _, _, _, .cons a b => .cons (Dt.keepS s i a) (DtAll.keepS s i b)
theorem DtKV.keepS {S S' : Addr → Prop} {q : Bool} {H H' : Hp} (s : ∀ a o, S a → H a = some o → H' a = some o) (i : ∀ a, S a → S' a) : ∀ {n : Nat} {v : List (Key × V)} {d : List (PyData × PyData)}, DtKV S q H n v d → DtKV S' q H' n v d
  | _, _, _, .nil => .nil
  | _, _, _, .cons a b => .cons (Dt.keepS s i a) (DtKV.keepS s i b)
end
theorem Dt.imp {S S' : Addr → Prop} {q : Bool} {H : Hp} {n : Nat} {v : V} {d : PyData} (h : Dt S q H n v d) (i : ∀ a, S a → S' a) : Dt S' q H n v d := h.keepS (fun _ _ _ e => e) i
theorem DtAll.imp {S S' : Addr → Prop} {q : Bool} {H : Hp} {n : Nat} {v : List V} {d : List PyData} (h : DtAll S q H n v d) (i : ∀ a, S a → S' a) : DtAll S' q H n v d := h.keepS (fun _ _ _ e => e) i
mutual
theorem Dt.weak {S : Addr → Prop} {H : Hp} : ∀ {q : Bool} {n : Nat} {v : V} {d : PyData}, Dt S q H n v d → Dt S false H n v d
  | _, _, _, _, .non => .non
  | _, _, _, _, .bl b => .bl b
  | _, _, _, _, .int b => .int b
  | _, _, _, _, .str b h => .str b h
  | _, _, _, _, .lst r l a => .lst r l (DtAll.weak a)
  | _, _, _, _, .tup r l a => .tup r l (DtAll.weak a)
  | q, _, _, _, .dic r l a => .dic (by
      unfold DkAt at r ⊢
      cases q with
      | true => exact .inl r
      | false => exact r) l (DtKV.weak a)
theorem DtAll.weak {S : Addr → Prop} {H : Hp} : ∀ {q : Bool} {n : Nat} {v : List V} {d : List PyData}, DtAll S q H n v d → DtAll S false H n v d
  | _, _, _, _, .nil => .nil
  | _, _, _, _, .cons a b => .cons (Dt.weak a) (DtAll.weak b)
theorem DtKV.weak {S : Addr → Prop} {H : Hp} : ∀ {q : Bool} {n : Nat} {v : List (Key × V)} {d : List (PyData × PyData)}, DtKV S q H n v d → DtKV S false H n v d
  | _, _, _, _, .nil => .nil
  | _, _, _, _, .cons a b => .cons (Dt.weak a) (DtKV.weak b)
end
mutual
theorem Dt.mono {S : Addr → Prop} {q : Bool} {H : Hp} : ∀ {n m : Nat} {v : V} {d : PyData}, n ≤ m → Dt S q H n v d → Dt S q H m v d
  | _, _, _, _, _, .non => .non
  | _, _, _, _, _, .bl b => .bl b
  | _, _, _, _, _, .int b => .int b
  | _, _, _, _, _, .str b h => .str b h
  | n + 1, m + 1, _, _, h, .lst r l a => .lst r l (DtAll.mono (Nat.le_of_succ_le_succ h) a)
  | n + 1, m + 1, _, _, h, .tup r l a => .tup r l (DtAll.mono (Nat.le_of_succ_le_succ h) a)
  | n + 1, m + 1, _, _, h, .dic r l a => .dic r l (DtKV.mono (Nat.le_of_succ_le_succ h) a)
theorem DtAll.mono {S : Addr → Prop} {q : Bool} {H : Hp} : ∀ {n m : Nat} {v : List V} {d : List PyData}, n ≤ m → DtAll S q H n v d → DtAll S q H m v d
  | _, _, _, _, _, .nil => .nil
  | _, _, _, _, h, .cons a b => .cons (Dt.mono h a) (DtAll.mono h b)
theorem DtKV.mono {S : Addr → Prop} {q : Bool} {H : Hp} : ∀ {n m : Nat} {v : List (Key × V)} {d : List (PyData × PyData)}, n ≤ m → DtKV S q H n v d → DtKV S q H m v d
  | _, _, _, _, _, .nil => .nil
  | _, _, _, _, h, .cons a b => .cons (Dt.mono h a) (DtKV.mono h b)
end
theorem rd_fun {H : Hp} {a : Addr} {u u' : HO} (r : Rd H a u) (r' : Rd H a u') (h : ∀ ob x, u ≠ .frz ob x) (h' : ∀ ob x, u' ≠ .frz ob x) : u = u' := by
  rcases r with r | ⟨o, r⟩ <;> rcases r' with r' | ⟨o', r'⟩ <;> rw [r] at r' <;> cases r'
  · rfl
  · exact absurd rfl (h _ _)
  · exact absurd rfl (h' _ _)
  · rfl
theorem keyD_inj {k k' : Key} (h : keyD k = keyD k') : k = k' := by
  cases k <;> cases k' <;> cases h <;> rfl
mutual
theorem Dt.det {S S' : Addr → Prop} {H : Hp} : ∀ {n m : Nat} {v : V} {d e : PyData}, Dt S false H n v d → Dt S' false H m v e → d = e
  | _, _, _, _, _, .non, .non => rfl
  | _, _, _, _, _, .bl _, .bl _ => rfl
  | _, _, _, _, _, .int _, .int _ => rfl
  | _, _, _, _, _, .str _ _, .str _ _ => rfl
  | _, _, _, _, _, .lst r l a, h => by
    cases h with
    | lst r' l' a' =>
      have e := rd_fun r r' (fun _ _ z => by cases z) (fun _ _ z => by cases z)
      cases e
      rw [DtAll.det a a']
    | tup r' l' a' =>
      have e := rd_fun r (.inl r') (fun _ _ z => by cases z) (fun _ _ z => by cases z)
      cases e
    | dic r' l' a' =>
      have e := rd_fun r (show Rd H _ _ from r') (fun _ _ z => by cases z) (fun _ _ z => by cases z)
      cases e
  | _, _, _, _, _, .tup r l a, h => by
    cases h with
    | lst r' l' a' =>
      have e := rd_fun (.inl r) r' (fun _ _ z => by cases z) (fun _ _ z => by cases z)
      cases e
    | tup r' l' a' =>
      have e := rd_fun (.inl r) (.inl r') (fun _ _ z => by cases z) (fun _ _ z => by cases z)
      cases e
      rw [DtAll.det a a']
    | dic r' l' a' =>
      have e := rd_fun (.inl r) (show Rd H _ _ from r') (fun _ _ z => by cases z) (fun _ _ z => by cases z)
      cases e
  | _, _, _, _, _, .dic r l a, h => by
    cases h with
    | lst r' l' a' =>
      have e := rd_fun (show Rd H _ _ from r) r' (fun _ _ z => by cases z) (fun _ _ z => by cases z)
      cases e
    | tup r' l' a' =>
      have e := rd_fun (show Rd H _ _ from r) (.inl r') (fun _ _ z => by cases z) (fun _ _ z => by cases z)
      cases e
    | dic r' l' a' =>
      have e := rd_fun (show Rd H _ _ from r) (show Rd H _ _ from r') (fun _ _ z => by cases z) (fun _ _ z => by cases z)
      cases e
      rw [DtKV.det a a']
theorem DtAll.det {S S' : Addr → Prop} {H : Hp} : ∀ {n m : Nat} {v : List V} {d e : List PyData}, DtAll S false H n v d → DtAll S' false H m v e → d = e
  | _, _, _, _, _, .nil, .nil => rfl
  | _, _, _, _, _, .cons a b, .cons a' b' => by rw [Dt.det a a', DtAll.det b b']
theorem DtKV.det {S S' : Addr → Prop} {H : Hp} : ∀ {n m : Nat} {v : List (Key × V)} {d e : List (PyData × PyData)}, DtKV S false H n v d → DtKV S' false H m v e → d = e
  | _, _, _, _, _, .nil, .nil => rfl
  | _, _, _, _, _, .cons a b, .cons a' b' => by rw [Dt.det a a', DtKV.det b b']
end
/-- locking a dict leaves data that is less than its own -/
theorem rd_lock {H : Hp} {a p : Addr} {u : HO} {kvs : List (Key × V)} {od : Obj} (hp : H p = some (.dK kvs)) (hu : ∀ kvs, u ≠ .dK kvs) (hf : ∀ ob x, u ≠ .frz ob x) (r : Rd H a u) : Rd (upd H p (.frz od (.dK kvs))) a u :=
  (Sm.lock (od := od) hp (fun _ _ z => by cases z) (fun _ z => by cases z)).rd r
mutual
theorem Dt.lock {S : Addr → Prop} {H : Hp} {p : Addr} {kvs : List (Key × V)} {ds : List (PyData × PyData)} {od : Obj} {m : Nat} (hp : H p = some (.dK kvs)) (hl : (kvs.length ≤ 1000000 ∧ (kvs.map (·.1)).Nodup) ∧ S p) (hd : DtKV S false H m kvs ds) : ∀ {n : Nat} {v : V} {d : PyData}, Dt S true H n v d → sizeOf d < sizeOf (PyData.dict ds) → Dt S true (upd H p (.frz od (.dK kvs))) n v d
  | _, _, _, .non, _ => .non
  | _, _, _, .bl b, _ => .bl b
  | _, _, _, .int b, _ => .int b
  | _, _, _, .str b h, _ => .str b h
  | _, _, _, .lst r l a, h => .lst (rd_lock hp (fun _ z => by cases z) (fun _ _ z => by cases z) r) l (DtAll.lock hp hl hd a (by simp at h ⊢; omega))
  | _, _, _, .tup r l a, h => .tup ((Sm.lock (od := od) hp (fun _ _ z => by cases z) (fun _ z => by cases z)).tup r) l (DtAll.lock hp hl hd a (by simp at h ⊢; omega))
  | n + 1, .ref x, .dict es, .dic (kvs := kvs') r l a, h => by
    have r' : H x = some (.dK kvs') := r
    refine .dic ?_ l (DtKV.lock hp hl hd a (by simp at h ⊢; omega))
    show upd H p _ x = some (.dK kvs')
    by_cases z : x = p
    · exfalso
      have e : Dt S false H (m + 1) (.ref x) (.dict ds) := by rw [z]; exact .dic (show Rd H p _ from .inl hp) hl hd
      have e2 : Dt S false H (n + 1) (.ref x) (.dict es) := .dic (show Rd H x _ from .inl r') l (DtKV.weak a)
      have e3 := Dt.det e2 e
      rw [e3] at h
      exact Nat.lt_irrefl _ h
    · rw [upd_ne z]; exact r'
theorem DtAll.lock {S : Addr → Prop} {H : Hp} {p : Addr} {kvs : List (Key × V)} {ds : List (PyData × PyData)} {od : Obj} {m : Nat} (hp : H p = some (.dK kvs)) (hl : (kvs.length ≤ 1000000 ∧ (kvs.map (·.1)).Nodup) ∧ S p) (hd : DtKV S false H m kvs ds) : ∀ {n : Nat} {v : List V} {d : List PyData}, DtAll S true H n v d → sizeOf d < sizeOf (PyData.dict ds) → DtAll S true (upd H p (.frz od (.dK kvs))) n v d
  | _, _, _, .nil, _ => .nil
  | _, _, _, .cons a b, h => .cons (Dt.lock hp hl hd a (by simp at h ⊢; omega)) (DtAll.lock hp hl hd b (by simp at h ⊢; omega))
theorem DtKV.lock {S : Addr → Prop} {H : Hp} {p : Addr} {kvs : List (Key × V)} {ds : List (PyData × PyData)} {od : Obj} {m : Nat} (hp : H p = some (.dK kvs)) (hl : (kvs.length ≤ 1000000 ∧ (kvs.map (·.1)).Nodup) ∧ S p) (hd : DtKV S false H m kvs ds) : ∀ {n : Nat} {v : List (Key × V)} {d : List (PyData × PyData)}, DtKV S true H n v d → sizeOf d < sizeOf (PyData.dict ds) → DtKV S true (upd H p (.frz od (.dK kvs))) n v d
  | _, _, _, .nil, _ => .nil
  | _, _, _, .cons a b, h => .cons (Dt.lock hp hl hd a (by simp at h ⊢; omega)) (DtKV.lock hp hl hd b (by simp at h ⊢; omega))
end
/-! ### items -/
theorem DtAll.len {S : Addr → Prop} {q : Bool} {H : Hp} : ∀ {n : Nat} {v : List V} {d : List PyData}, DtAll S q H n v d → v.length = d.length
  | _, _, _, .nil => rfl
  | _, _, _, .cons _ b => by rw [List.length_cons, List.length_cons, DtAll.len b]
theorem DtAll.get {S : Addr → Prop} {q : Bool} {H : Hp} : ∀ {n : Nat} {v : List V} {d : List PyData}, DtAll S q H n v d → ∀ {i : Nat} {x : PyData}, d[i]? = some x → ∃ y, v[i]? = some y ∧ Dt S q H n y x
  | _, _, _, .cons a b, 0, x, h => by cases h; exact ⟨_, rfl, a⟩
  | _, _, _, .cons a b, i + 1, x, h => b.get (i := i) h
theorem DtAll.getV {S : Addr → Prop} {q : Bool} {H : Hp} : ∀ {n : Nat} {v : List V} {d : List PyData}, DtAll S q H n v d → ∀ {i : Nat} {y : V}, v[i]? = some y → ∃ x, d[i]? = some x ∧ Dt S q H n y x
  | _, _, _, .cons a b, 0, x, h => by cases h; exact ⟨_, rfl, a⟩
  | _, _, _, .cons a b, i + 1, x, h => b.getV (i := i) h
theorem DtAll.append {S : Addr → Prop} {q : Bool} {H : Hp} : ∀ {n : Nat} {v v' : List V} {d d' : List PyData}, DtAll S q H n v d → DtAll S q H n v' d' → DtAll S q H n (v ++ v') (d ++ d')
  | _, _, _, _, _, .nil, h => h
  | _, _, _, _, _, .cons a b, h => .cons a (b.append h)
theorem DtKV.len {S : Addr → Prop} {q : Bool} {H : Hp} : ∀ {n : Nat} {v : List (Key × V)} {d : List (PyData × PyData)}, DtKV S q H n v d → v.length = d.length
  | _, _, _, .nil => rfl
  | _, _, _, .cons _ b => by rw [List.length_cons, List.length_cons, DtKV.len b]
theorem DtKV.keys {S S' : Addr → Prop} {q q' : Bool} {H H' : Hp} : ∀ {n m : Nat} {v v' : List (Key × V)} {d : List (PyData × PyData)}, DtKV S q H n v d → DtKV S' q' H' m v' d → v.map (·.1) = v'.map (·.1)
  | _, _, _, _, _, .nil, h => by cases h; rfl
  | _, _, _, _, _, .cons (k := k) a b, h => by
    generalize hd : keyD k = kd at h
    cases h with
    | @cons _ k' _ _ _ _ a' b' =>
      have e := keyD_inj hd
      rw [List.map_cons, List.map_cons, b.keys b']
      show k :: _ = k' :: _
      rw [e]
theorem DtKV.val {S S' : Addr → Prop} {q q' : Bool} {H H' : Hp} : ∀ {n m : Nat} {v v' : List (Key × V)} {d : List (PyData × PyData)}, DtKV S q H n v d → DtKV S' q' H' m v' d → ∀ (k : Key), k ∈ v.map (·.1) → ∃ x y e, valV v k = some x ∧ valV v' k = some y ∧ Dt S q H n x e ∧ Dt S' q' H' m y e ∧ sizeOf e < sizeOf (PyData.dict d)
  | _, _, _, _, _, .nil, h, k, hk => nomatch hk
  | _, _, _, _, _, .cons (k := k0) (v := v0) (vs := vs) a b, h, k, hk => by
    generalize hd : keyD k0 = kd at h
    cases h with
    | @cons _ k' v1 vs' _ _ a' b' =>
      have e := keyD_inj hd
      subst e
      by_cases z : k0 = k
      · refine ⟨_, _, _, ?_, ?_, a, a', ?_⟩
        · unfold valV; rw [List.find?_cons_of_pos (by simp [z])]; rfl
        · unfold valV; rw [List.find?_cons_of_pos (by simp [z])]; rfl
        · simp; omega
      · have hk' : k ∈ vs.map (·.1) := by
          rcases List.mem_cons.mp hk with h | h
          · exact absurd h.symm z
          · exact h
        obtain ⟨x, y, e, h1, h2, h3, h4, h5⟩ := b.val b' k hk'
        refine ⟨x, y, e, ?_, ?_, h3, h4, ?_⟩
        · unfold valV at h1 ⊢; rw [List.find?_cons_of_neg (by simp [z])]; exact h1
        · unfold valV at h2 ⊢; rw [List.find?_cons_of_neg (by simp [z])]; exact h2
        · simp at h5 ⊢; omega
theorem DtKV.getV {S : Addr → Prop} {q : Bool} {H : Hp} : ∀ {n : Nat} {v : List (Key × V)} {d : List (PyData × PyData)}, DtKV S q H n v d → ∀ {i : Nat} {k : Key} {y : V}, v[i]? = some (k, y) → ∃ x, d[i]? = some (keyD k, x) ∧ Dt S q H n y x ∧ sizeOf x < sizeOf (PyData.dict d)
  | _, _, _, .cons a b, 0, k, y, h => by
    cases h
    exact ⟨_, rfl, a, by simp; omega⟩
  | _, _, _, .cons a b, i + 1, k, y, h => by
    obtain ⟨x, h1, h2, h3⟩ := b.getV (i := i) h
    exact ⟨x, h1, h2, by simp at h3 ⊢; omega⟩
theorem DtKV.append {S : Addr → Prop} {q : Bool} {H : Hp} : ∀ {n : Nat} {v v' : List (Key × V)} {d d' : List (PyData × PyData)}, DtKV S q H n v d → DtKV S q H n v' d' → DtKV S q H n (v ++ v') (d ++ d')
  | _, _, _, _, _, .nil, h => h
  | _, _, _, _, _, .cons a b, h => .cons a (b.append h)
theorem valV_out {kvs : List (Key × V)} {k : Key} (h : k ∉ kvs.map (·.1)) : valV kvs k = none := by
  unfold valV
  rw [Option.map_eq_none_iff, List.find?_eq_none]
  intro x hx hk
  exact h (List.mem_map.mpr ⟨x, hx, of_decide_eq_true hk⟩)
theorem valV_at : ∀ {kvs : List (Key × V)} {i : Nat} {k : Key} {v : V}, (kvs.map (·.1)).Nodup → kvs[i]? = some (k, v) → valV kvs k = some v
  | [], _, _, _, _, h => by cases h
  | p :: r, 0, k, v, _, h => by
    cases h
    unfold valV
    rw [List.find?_cons_of_pos (by simp)]; rfl
  | p :: r, i + 1, k, v, nd, h => by
    have ih := valV_at (kvs := r) (i := i) (List.nodup_cons.mp nd).2 h
    have hm : k ∈ r.map (·.1) := List.mem_map.mpr ⟨(k, v), List.mem_of_getElem? h, rfl⟩
    have hne : p.1 ≠ k := fun z => (List.nodup_cons.mp nd).1 (by rw [← z] at hm; exact hm)
    unfold valV at ih ⊢
    rw [List.find?_cons_of_neg (by simp [hne])]
    exact ih
theorem nodup_at {α : Type} : ∀ {l : List α} (_ : l.Nodup) {i j : Nat} (hi : i < l.length) (hj : j < l.length), l[i] = l[j] → i = j
  | a :: l, nd, 0, 0, _, _, _ => rfl
  | a :: l, nd, 0, j + 1, _, hj, e => absurd (show a ∈ l by rw [show a = l[j]'(by simpa using hj) from e]; exact List.getElem_mem _) (List.nodup_cons.mp nd).1
  | a :: l, nd, i + 1, 0, hi, _, e => absurd (show a ∈ l by rw [← show l[i]'(by simpa using hi) = a from e]; exact List.getElem_mem _) (List.nodup_cons.mp nd).1
  | a :: l, nd, i + 1, j + 1, hi, hj, e => congrArg (· + 1) (nodup_at (List.nodup_cons.mp nd).2 (by simpa using hi) (by simpa using hj) e)
theorem notin_take {α : Type} {l : List α} {i : Nat} {x : α} (nd : l.Nodup) (h : l[i]? = some x) : x ∉ l.take i := fun hm => by
  obtain ⟨j, hj, e⟩ := List.mem_take_iff_getElem.mp hm
  obtain ⟨hi, e2⟩ := List.getElem?_eq_some_iff.mp h
  have := (nodup_at nd (by omega) hi (e.trans e2.symm))
  omega
/-! ### what isinstance tells of data -/
def tyD : PyData → Value
  | .none => .type "NoneType"
  | .bool _ => .type "bool"
  | .int _ => .type "int"
  | .str _ => .type "str"
  | .list _ => .type "list"
  | .tuple _ => .type "tuple"
  | .dict _ => .type "dict"
end Fm
namespace Fm
open PySem PySem.Spec PyProof.Rows L2
def tyS : PyData → String
  | .none => "NoneType"
  | .bool _ => "bool"
  | .int _ => "int"
  | .str _ => "str"
  | .list _ => "list"
  | .tuple _ => "tuple"
  | .dict _ => "dict"
theorem Dt.ty {S : Addr → Prop} {K : PySem.W.Frag} {q : Bool} {H : Hp} : ∀ {n : Nat} {v : V} {d : PyData}, Dt S q H n v d → TyX K H v (.type (tyS d))
  | _, _, _, .non => .base .non
  | _, _, _, .bl b => .base (.bl b)
  | _, _, _, .int b => .base (.int b)
  | _, _, _, .str b _ => .base (.str b)
  | _, _, _, .lst r l a => by
    rcases r with r | ⟨o, r⟩
    · exact .base (.lst r)
    · exact .base (.frz r)
  | _, _, _, .tup r l a => .base (.tup r)
  | _, _, _, .dic r l a => by
    have r' := (show Rd H _ _ by
      unfold DkAt at r
      cases q with
      | true => exact .inl r
      | false => exact r)
    rcases r' with r | ⟨o, r⟩
    · exact .base (.dK r)
    · exact .fDict r
def isL : PyData → Bool
  | .list _ => true
  | _ => false
theorem kb_list : ∀ d : PyData, kitB (tyS d) "list" = some (isL d)
  | .none => (by decide +kernel : kitB "NoneType" "list" = some false)
  | .bool _ => (by decide +kernel : kitB "bool" "list" = some false)
  | .int _ => (by decide +kernel : kitB "int" "list" = some false)
  | .str _ => (by decide +kernel : kitB "str" "list" = some false)
  | .list _ => (by decide +kernel : kitB "list" "list" = some true)
  | .tuple _ => (by decide +kernel : kitB "tuple" "list" = some false)
  | .dict _ => (by decide +kernel : kitB "dict" "list" = some false)
def isT : PyData → Bool
  | .tuple _ => true
  | _ => false
theorem kb_tuple : ∀ d : PyData, kitB (tyS d) "tuple" = some (isT d)
  | .none => (by decide +kernel : kitB "NoneType" "tuple" = some false)
  | .bool _ => (by decide +kernel : kitB "bool" "tuple" = some false)
  | .int _ => (by decide +kernel : kitB "int" "tuple" = some false)
  | .str _ => (by decide +kernel : kitB "str" "tuple" = some false)
  | .list _ => (by decide +kernel : kitB "list" "tuple" = some false)
  | .tuple _ => (by decide +kernel : kitB "tuple" "tuple" = some true)
  | .dict _ => (by decide +kernel : kitB "dict" "tuple" = some false)
def isM : PyData → Bool
  | .dict _ => true
  | _ => false
theorem kb_dict : ∀ d : PyData, kitB (tyS d) "dict" = some (isM d)
  | .none => (by decide +kernel : kitB "NoneType" "dict" = some false)
  | .bool _ => (by decide +kernel : kitB "bool" "dict" = some false)
  | .int _ => (by decide +kernel : kitB "int" "dict" = some false)
  | .str _ => (by decide +kernel : kitB "str" "dict" = some false)
  | .list _ => (by decide +kernel : kitB "list" "dict" = some false)
  | .tuple _ => (by decide +kernel : kitB "tuple" "dict" = some false)
  | .dict _ => (by decide +kernel : kitB "dict" "dict" = some true)
def isB : PyData → Bool
  | .bool _ => true
  | _ => false
theorem kb_bool : ∀ d : PyData, kitB (tyS d) "bool" = some (isB d)
  | .none => (by decide +kernel : kitB "NoneType" "bool" = some false)
  | .bool _ => (by decide +kernel : kitB "bool" "bool" = some true)
  | .int _ => (by decide +kernel : kitB "int" "bool" = some false)
  | .str _ => (by decide +kernel : kitB "str" "bool" = some false)
  | .list _ => (by decide +kernel : kitB "list" "bool" = some false)
  | .tuple _ => (by decide +kernel : kitB "tuple" "bool" = some false)
  | .dict _ => (by decide +kernel : kitB "dict" "bool" = some false)
def isI : PyData → Bool
  | .bool _ => true
  | .int _ => true
  | _ => false
theorem kb_int : ∀ d : PyData, kitB (tyS d) "int" = some (isI d)
  | .none => (by decide +kernel : kitB "NoneType" "int" = some false)
  | .bool _ => (by decide +kernel : kitB "bool" "int" = some true)
  | .int _ => (by decide +kernel : kitB "int" "int" = some true)
  | .str _ => (by decide +kernel : kitB "str" "int" = some false)
  | .list _ => (by decide +kernel : kitB "list" "int" = some false)
  | .tuple _ => (by decide +kernel : kitB "tuple" "int" = some false)
  | .dict _ => (by decide +kernel : kitB "dict" "int" = some false)
def isS : PyData → Bool
  | .str _ => true
  | _ => false
theorem kb_str : ∀ d : PyData, kitB (tyS d) "str" = some (isS d)
  | .none => (by decide +kernel : kitB "NoneType" "str" = some false)
  | .bool _ => (by decide +kernel : kitB "bool" "str" = some false)
  | .int _ => (by decide +kernel : kitB "int" "str" = some false)
  | .str _ => (by decide +kernel : kitB "str" "str" = some true)
  | .list _ => (by decide +kernel : kitB "list" "str" = some false)
  | .tuple _ => (by decide +kernel : kitB "tuple" "str" = some false)
  | .dict _ => (by decide +kernel : kitB "dict" "str" = some false)
theorem isi1 {S : Addr → Prop} {K : PySem.W.Frag} {q : Bool} {H : Hp} {n : Nat} {x : V} {d : PyData} {T : String} {b : Bool} {Q : VK} (h : Dt S q H n x d) (hb : kitB (tyS d) T = some b) (hq : Q (.bl b) H) : rIsi K [x, .ty T] H Q :=
  ⟨x, .ty T, .type (tyS d), .type T, b, rfl, .ty T, h.ty, kit_ty hb, hq⟩
def isRowD : PyData → Bool
  | .list _ => true
  | .tuple _ => true
  | _ => false
theorem kit_row {K : PySem.W.Frag} (d : PyData) : PySem.W.kitAny K (.type (tyS d)) [.type "list", .type "tuple"] = some (isRowD d) := by
  refine kitAny_cons (kit_ty (kb_list d)) (fun e => kitAny_cons (kit_ty (kb_tuple d)) (fun e' => ?_) (fun e' => ?_)) (fun e => ?_)
  · cases d <;> first | rfl | exact Bool.noConfusion e' | exact Bool.noConfusion e
  · cases d <;> first | rfl | exact Bool.noConfusion e' | exact Bool.noConfusion e
  · cases d <;> first | rfl | exact Bool.noConfusion e
theorem isiR {S : Addr → Prop} {K : PySem.W.Frag} {q : Bool} {H : Hp} {n : Nat} {x : V} {d : PyData} {T : Addr} {Q : VK} (h : Dt S q H n x d) (hT : H T = some (.tup [.ty "list", .ty "tuple"])) (hq : Q (.bl (isRowD d)) H) : rIsiT K [x, .ref T] H Q :=
  ⟨x, T, _, .type (tyS d), [.type "list", .type "tuple"], _, rfl, hT, .cons (.ty _) (.cons (.ty _) .nil), h.ty, kit_row d, hq⟩
theorem iteB {b c : Bool} {A B : Prop} (e : b = c) (h : if c = true then A else B) : if b = true then A else B := by rw [e]; exact h
theorem callR_or {X : Cx} {f : Value} {r r' : List V → Hp → VK → Prop} (h : CallR X f r) (h' : CallR X f r') : CallR X f (fun xs H Q => r xs H Q ∨ r' xs H Q) := by
  intro pins s σ H xs us Q I rv q
  rcases q with q | q
  · exact h pins s σ H xs us Q I rv q
  · exact h' pins s σ H xs us Q I rv q
theorem opR_or {X : Cx} {f : Value → Value → Sem Value} {r r' : R2} (h : OpR X f r) (h' : OpR X f r') : OpR X f (fun x y H Q => r x y H Q ∨ r' x y H Q) := by
  intro pins s σ H x y v u Q I rx ry q
  rcases q with q | q
  · exact h pins s σ H x y v u Q I rx ry q
  · exact h' pins s σ H x y v u Q I rx ry q
/-- len of a dict, locked or not -/
theorem call_lenR {X : Cx} : CallR X (.builtin "len") (fun xs H Q => ∃ a kvs, xs = [V.ref a] ∧ Rd H a (.dK kvs) ∧ Q (.int kvs.length) H) := by
  intro pins s σ H xs us Q I r h
  obtain ⟨a, kvs, rfl, ha, q⟩ := h
  obtain ⟨u, rfl, ru⟩ := vals1 r
  cases ru
  exact d_len I ha fun t s' I' => ⟨.int kvs.length, H, I', ⟨t, rfl⟩, q⟩
/-- a def of which nothing is promised -/
theorem Dfn.none {P : Program} {w : World} {K : PySem.W.Frag} {mg : Str → Option Value} {base : Heap} {x : Str} {st : Stmt} {ps : List Str} {CX : CXT} {k : Nat} (D : Dfn K mg x st ps) : Has P w K mg base CX x ps k (fun _ _ _ _ => False) := by
  obtain ⟨f, fd, F, g, b⟩ := D
  exact ⟨f, fd, ⟨fun _ _ _ _ h => h.elim, fun _ _ _ _ _ _ _ _ _ _ _ _ _ h => h.elim⟩, g, F.kp, b⟩
end Fm
namespace Fm
open PySem PySem.Spec PyProof.Rows L2
theorem rd_some {H : Hp} {a : Addr} {u : HO} (r : Rd H a u) : H a ≠ none := by
  rcases r with r | ⟨o, r⟩ <;> rw [r] <;> exact fun z => nomatch z
mutual
theorem Dt.inH {S : Addr → Prop} {q : Bool} {H : Hp} : ∀ {n : Nat} {v : V} {d : PyData}, Dt S q H n v d → Dt (fun a => S a ∧ H a ≠ none) q H n v d
  | _, _, _, .non => .non
  | _, _, _, .bl b => .bl b
  | _, _, _, .int b => .int b
  | _, _, _, .str b h => .str b h
  | _, _, _, .lst r l a => .lst r ⟨l.1, l.2, rd_some r⟩ (DtAll.inH a)
  | _, _, _, .tup r l a => .tup r ⟨l.1, l.2, rd_some (.inl r)⟩ (DtAll.inH a)
  | _, _, _, .dic r l a => .dic r ⟨l.1, l.2, by
      unfold DkAt at r
      cases q with
      | true => exact rd_some (.inl r)
      | false => exact rd_some r⟩ (DtKV.inH a)
theorem DtAll.inH {S : Addr → Prop} {q : Bool} {H : Hp} : ∀ {n : Nat} {v : List V} {d : List PyData}, DtAll S q H n v d → DtAll (fun a => S a ∧ H a ≠ none) q H n v d
  | _, _, _, .nil => .nil
  | _, _, _, .cons a b => .cons (Dt.inH a) (DtAll.inH b)
theorem DtKV.inH {S : Addr → Prop} {q : Bool} {H : Hp} : ∀ {n : Nat} {v : List (Key × V)} {d : List (PyData × PyData)}, DtKV S q H n v d → DtKV (fun a => S a ∧ H a ≠ none) q H n v d
  | _, _, _, .nil => .nil
  | _, _, _, .cons a b => .cons (Dt.inH a) (DtKV.inH b)
end
end Fm

namespace Fm
open PySem PySem.Spec PyProof.Rows L2
theorem take_snoc {α : Type} {l : List α} {i : Nat} {x : α} (h : l[i]? = some x) : l.take (i + 1) = l.take i ++ [x] := by
  have hi : i < l.length := (List.getElem?_eq_some_iff.mp h).1
  rw [List.take_succ, h]; rfl
end Fm

namespace PySem
open PySem.Calls PyProof.Rows
/-- enumerate(v) without a start, v told by how its iterator begins -/
theorem fm_enum_new {v : Value} {o : Obj} {Hv : Heap → Prop} (bg : Begins v o Hv) :
    Meets (Builtin.«enumerate.__new__» ⟨[.type "enumerate", v], []⟩) (fun _ R s => Hv s.heap ∧ R (.ok (.ret (.ref (s.heap.push o).objs.size)))
      { s with heap := (s.heap.push o).push { cls := .type "enumerate", data := .fields #[.none, .bool false, .ref s.heap.objs.size, rawInt 0, .none, .none] } }) := by
  refine .of_wp fun prog w A R s hh => ?_
  rcases s with ⟨hp, gs, dr, tk, os⟩
  rcases hh with ⟨hv, hR⟩
  have sE := sub_enumerate
  have stp : ∀ {A1 : Around} {E1 : Value → Shared → Prop} {Q1 : Value → Shared → Prop}, Q1 (.ref hp.objs.size) ⟨hp.push o, gs, dr, tk, os⟩ → wpAny (model prog w) A1 (pyIter v) Q1 E1 ⟨hp, gs, dr, tk, os⟩ := fun q1 => bg.iter prog w _ _ ⟨hp, gs, dr, tk, os⟩ _ hv q1
  wp_walk using stp
  refine wpAny_stack_any fun _ => wpAny_pure ?_
  split
  · rename_i cc _ _ _ _ _
    cases (cc == Value.type "enumerate") <;> (wp_walk using stp; exact ⟨_, rfl, hR⟩)
  · wp_walk using stp
    exact ⟨_, rfl, hR⟩
theorem fm_call_enum {prog : Program} {w : World} {A : Around} {E : Value → Shared → Prop} {s : Shared} {v : Value} {o : Obj} {Hv : Heap → Prop} {Q : Value → Shared → Prop} (bg : Begins v o Hv) (h1 : Hv s.heap)
    (k : ∀ h', IsEnum h' (s.heap.objs.size + 1) s.heap.objs.size 0 .none → h'.get? s.heap.objs.size = some o → (∀ b u, s.heap.get? b = some u → h'.get? b = some u) → Q (.ref (s.heap.objs.size + 1)) { s with heap := h' }) :
    wpAny (model prog w) A (call (.type "enumerate") [v]) Q E s := by
  refine callType_new F.called_enumerate (by decide) (F.typeCall_enumerate_1 _) (F.newCall_enumerate_1 _) (fun obj => F.args_object_init_2 obj _) F.entry_enumerate_new (fm_enum_new bg) ⟨h1, ?_⟩
  have sz : (s.heap.push o).objs.size = s.heap.objs.size + 1 := Heap.size_push ..
  show _ ∧ _
  rw [sz]
  have ie : IsEnum ((s.heap.push o).push { cls := .type "enumerate", data := .fields #[.none, .bool false, .ref s.heap.objs.size, rawInt 0, .none, .none] }) (s.heap.objs.size + 1) s.heap.objs.size 0 .none := by
    have g := Heap.get?_push_size (s.heap.push o) (o := { cls := .type "enumerate", data := .fields #[.none, .bool false, .ref s.heap.objs.size, rawInt 0, .none, .none] }) rfl
    rw [sz] at g
    exact g
  exact ⟨⟨_, ie, rfl⟩, k _ ie (Heap.get?_push_of_some _ (Heap.get?_push_size _ bg.free)) fun b u e => Heap.get?_push_of_some _ (Heap.get?_push_of_some _ e)⟩
end PySem
namespace Fm
open PySem PySem.Spec PyProof.Rows L2
/-- enumerate(t), t a tuple: each item in a new pair -/
def ItE (K : PySem.W.Frag) (a : Addr) : It :=
  ⟨fun i H => ∃ (xs : List V) (x : V), SqT K H a xs ∧ xs[i]? = some x, fun i H v H' => ∃ T x, v = .ref T ∧ H T = none ∧ H' = upd H T (.tup [.int (i : Nat), x]) ∧ ∀ xs, SqT K H a xs → xs[i]? = some x, fun i H => ∃ xs : List V, SqT K H a xs ∧ xs.length = i⟩
theorem turn_enumT {P : Program} {w : World} {K : PySem.W.Frag} {elts : List Expr} {kk : Nat} {tpos : Pos} (a e it : Addr) (nea : a ≠ it) (nee : e ≠ it) (nae : e ≠ a) :
    Turn P w K (.Tuple elts kk tpos) (ItE K a) [e, it] e (fun i h => (∃ old, IsEnum h e it ((i : Nat) : Int) old) ∧ h.IsTupleIter it a i) where
  mem := by simp
  obj := fun i h st b hb => by
    obtain ⟨⟨old, he⟩, ⟨o, ho, hc, hd⟩⟩ := st
    rcases (show b = e ∨ b = it by simpa using hb) with rfl | rfl
    · exact ⟨_, he, fun v q => nomatch q⟩
    · exact ⟨o, ho, fun v q => by rw [hd] at q; cases q⟩
  keep := fun i h h' st k => let ⟨⟨old, he⟩, hi⟩ := st; ⟨⟨old, k e (by simp) _ he⟩, hi.at fun o q => k it (by simp) o q⟩
  item := by
    intro X hP hw hK hc i pins s σ H E I hf st hg
    subst hP hw hK
    obtain ⟨⟨old, he⟩, hit⟩ := st
    obtain ⟨xs, x, hq, hx⟩ := hg
    obtain ⟨its, rv, p, hz⟩ := I.tuple hq
    obtain ⟨u, hu, ru⟩ := rv.get hx
    have hel : e < s.heap.objs.size := Heap.lt_size he
    have hil : it < s.heap.objs.size := by obtain ⟨_, q, _⟩ := hit; exact Heap.lt_size q
    have hlt : i < its.toArray.size := by
      have := (List.getElem?_eq_some_iff.mp hu).1
      simpa using this
    have Dr := Draws.tuple (prog := X.prog) (w := X.w) (A := X.A.in1) (I.ok.hd hc) it a nea its.toArray
    refine wpAny_pyNext_enum_itemC Dr he ⟨hit, p⟩ hlt nee (by simp [nee, nae]) fun y h1 tk hy ho st1 hT hsz hk => ?_
    have ey : y = u := by
      have h2 : its[i]? = some y := by simpa using hy
      rw [hu] at h2
      exact (Option.some.inj h2).symm
    subst ey
    refine ⟨_, rfl, wpAny_letOwnedTupleGo_enum (s := { s with heap := h1, toks := tk + 1 }) ho fun h2 he2 sb => ?_⟩
    have hT2 : h2.get? s.heap.objs.size = some { cls := .type "tuple", data := .seq #[.int i tk, y] } := (sb.2 _ (Nat.ne_of_gt hel)).trans hT
    have nw : ObjOk X.prog X.w (upd H s.heap.objs.size (.tup [.int (i : Nat), x])) h2 s.heap.objs.size (.tup [.int (i : Nat), x]) :=
      ⟨by show 2 ≤ sizeLine; decide, [.int i tk, y], .cons ⟨_, rfl⟩ (.cons ru .nil), ⟨_, hT2, rfl, _, rfl⟩⟩
    have I1 : Inv X pins σ (upd H s.heap.objs.size (.tup [.int (i : Nat), x])) { s with heap := h2, toks := tk + 1 } :=
      I.turnedNew (ch := [e, it]) (fun b ob hb q => (sb.2 b (fun z => hb (by simp [z]))).trans (hk b ob (fun z => hb (by simp [z])) (fun z => hb (by simp [z])) q)) hf (Nat.le_refl _) nw
    refine ⟨.ref s.heap.objs.size, _, I1, rfl, ⟨_, x, rfl, I.hok.fresh (Nat.le_refl _), rfl, fun ys hy => by rw [I.tuple_inj hy hq]; exact hx⟩, ⟨⟨y, ?_⟩, st1.1.at fun o q => (sb.2 it (Ne.symm nee)).trans q⟩, fun b hb => ?_⟩
    · have e1 : ((i + 1 : Nat) : Int) = (i : Int) + 1 := by omega
      rw [e1]
      exact he2
    · have hb' : b < s.heap.objs.size := by
        rcases (show b = e ∨ b = it by simpa using hb) with rfl | rfl
        · exact hel
        · exact hil
      rw [upd_ne (Nat.ne_of_lt hb')]
      exact (hf b hb).1
  done := by
    intro X hP hw hK hc i pins s σ H E I hf st hg
    subst hP hw hK
    obtain ⟨⟨old, he⟩, hit⟩ := st
    obtain ⟨xs, hq, hx⟩ := hg
    obtain ⟨its, rv, p, hz⟩ := I.tuple hq
    obtain ⟨f0, f1, f2, f3, f4, f5⟩ := hf it (by simp)
    have hl := rv.length
    have Dr := Draws.tuple (prog := X.prog) (w := X.w) (A := X.A.in1) (I.ok.hd hc) it a nea its.toArray
    have ei : i = its.toArray.size := by simp; omega
    refine wpAny_pyNext_enum_endD Dr he ⟨by rw [← ei]; exact hit, p⟩ fun h1 eb => ⟨rfl, I.turned (t' := s.toks) (fun b o hb q => eb b o hb q) f0 f1 f3 f4 f5⟩
  self := fun A i s Q E st h => let ⟨⟨_, he⟩, _⟩ := st; wpAny_pyIter_enum he h
def iEnumT (K : PySem.W.Frag) (ta : TA) : TI := fun σ H R => ta σ H fun vs H1 => ∃ a xs, vs = [.ref a] ∧ SqT K H1 a xs ∧ R (ItE K a) H1
theorem pi_enumT {X : Cx} {e : Expr} {ta : TA} {p pos tpos : Pos} {elts : List Expr} {kk : Nat} (hg : Gl X "enumerate") (hm : X.mg "enumerate" = none) (ha : PA X [e] ta) (hs : starEach [e] X.env = [(false, eval e X.env)] := by rfl) :
    PI X (.Tuple elts kk tpos) (.Call (.Name "enumerate" p) [e] [] pos) (iEnumT X.K ta) := by
  refine ⟨fun pins s σ H R I h => ?_⟩
  refine Call_ (ld_blt I hg hm boot_enumerate (PyProof.Rows.callWith_type1 (thn (ha.run pos pins s σ H _ I h) fun us s1 ⟨vs, H1, I1, r1, q1⟩ => ?_) hs rfl))
  obtain ⟨a, xs, ex, hq, q⟩ := q1
  subst ex
  cases r1 with
  | cons r rr =>
    cases rr
    cases r
    obtain ⟨its, rv, p', hz⟩ := I1.tuple hq
    have hal : a < s1.heap.objs.size := by obtain ⟨_, q, _⟩ := p'; exact Heap.lt_size q
    refine fm_call_enum (begins_tuple a its.toArray) p' fun h' he ho hk => wpAny_pyIter_enum he ?_
    have I2 : Inv X pins σ H1 { s1 with heap := h' } := I1.kept (t' := s1.toks) hk
    refine ⟨s1.heap.objs.size + 1, [s1.heap.objs.size + 1, s1.heap.objs.size], _, _, H1, rfl, I2, turn_enumT a (s1.heap.objs.size + 1) s1.heap.objs.size (Nat.ne_of_lt hal) (Nat.succ_ne_self _) (Nat.ne_of_gt (Nat.lt_succ_of_lt hal)), ⟨⟨.none, he⟩, ⟨_, ho, rfl, rfl⟩⟩, fun b hb => ?_, q⟩
    have hle : s1.heap.objs.size ≤ b := by
      rcases (show b = s1.heap.objs.size + 1 ∨ b = s1.heap.objs.size by simpa using hb) with z | z
      · rw [z]; exact Nat.le_add_right _ _
      · rw [z]; exact Nat.le_refl _
    exact I1.fpOk hle (I1.hok.fresh hle)
/-- one of two ways to walk -/
theorem pi_or {X : Cx} {tg iter : Expr} {w1 w2 : TI} (h1 : PI X tg iter w1) (h2 : PI X tg iter w2) : PI X tg iter (fun σ H R => w1 σ H R ∨ w2 σ H R) := by
  refine ⟨fun pins s σ H R I h => ?_⟩
  rcases h with h | h
  · exact h1.run pins s σ H R I h
  · exact h2.run pins s σ H R I h
theorem walk_enumT {K : PySem.W.Frag} {a : Addr} {xs : List V} : Walk (ItE K a) xs.length (fun H => SqT K H a xs) (YPair (fun i => some (.int (i : Nat))) (fun i => xs[i]?)) := by
  refine ⟨fun i _ hi q => ⟨xs, xs[i], q, by simp [hi]⟩, fun _ q => ⟨xs, q, rfl⟩, fun i H v H' _ q y => ?_⟩
  obtain ⟨T, x, h1, h2, h3, h4⟩ := y
  exact ⟨T, .int (i : Nat), x, h1, h2, h3, rfl, h4 xs q⟩
end Fm

namespace Fm
open PySem PySem.Spec PyProof.Rows L2
/-! ### an own error with one attribute -/
/-- what __init__(self, f) promises: self.f = f -/
def spErr (C : Addr) (f : Str) : Sp := fun vs H Q _ => ∃ (a : Addr) (y : V), vs = [.ref a, y] ∧ H a = some (exo a C none) ∧
  ∀ dx, H dx = none → dx ≠ a → Q .non (upd (upd H dx (exd dx [(f, y)])) a (exo a C (some dx)))
structure Err (P : Program) (w : World) (K : PySem.W.Frag) (mg : Str → Option Value) (base : Heap) (x : Str) (f : Str) (C : Addr) : Prop where
  oex : OexC K C
  gl : mg x = some (.ref C)
  ini : ∃ fI fd, PySem.W.findIn K (.ref C) "__init__" = some (some (.ref fI)) ∧ PySem.W.typeIn K (.ref fI) = some (.type "function") ∧ FnOk P w K mg base CX0 1 fI fd ["self", f] (spErr C f) ∧ Binds K fd ["self", f] []
  no : PySem.W.findIn K (.ref C) f = some none
  xf : XfC K C
theorem heap_err {H : Hp} {a d : Addr} {o1 o2 o3 o4 : HO} (ha : H a = none) (hd : d ≠ a) : upd (del (upd (upd (upd H a o1) d o2) a o3) a) d o4 = upd H d o4 := by
  funext b
  by_cases z : b = d
  · rw [z, upd_same, upd_same]
  · rw [upd_ne z, upd_ne z]
    by_cases y : b = a
    · rw [y, del_same, ha]
    · rw [del_ne y, upd_ne y, upd_ne z, upd_ne y]
/-- the end of C(v): the wish, told of the error's own new dict -/
theorem err_in {C : Addr} {f : Str} {v : V} {H1 : Hp} {a : Addr} {Q : XK} {E : XK} (ha : H1 a = none) (q : ∀ d, H1 d = none → Q (.ref C) (some d) (upd H1 d (.xd [(f, v)]))) :
    spErr C f [.ref a, v] (upd H1 a (exo a C none)) (fun u H2 => u = .non ∧ ∃ (d : Addr) (fs : List (Str × V)), H2 a = some (exo a C (some d)) ∧ H2 d = some (exd d fs) ∧ H1 d = none ∧ Q (.ref C) (some d) (upd (del H2 a) d (.xd fs))) E := by
  refine ⟨a, v, rfl, upd_same, fun dx hdx hne => ⟨rfl, dx, [(f, v)], upd_same, by rw [upd_ne hne, upd_same], ?_, ?_⟩⟩
  · rw [upd_ne hne] at hdx; exact hdx
  · rw [heap_err ha hne]
    rw [upd_ne hne] at hdx
    exact q dx hdx
section
variable {X : Cx}
/-- raise C(e) -/
theorem ps_raiseE {x f : Str} {C : Addr} {a : Expr} {ta : TA} {W : WX} {p pos pos2 : Pos} {k : Nat} (hc : X.calm = true) (T : Err X.prog X.w X.K X.mg X.base x f C) (hr : Room k X.A) (hk : 2 ≤ k) (tk : Takes X W) (ha : PA X [a] ta) (hg : Gl X x := by rfl)
    (hdb : (x == ("__debug__" : Str)) = false := by decide) (he : starEach (a :: []) X.env = (false, eval a X.env) :: starEach [] X.env := by rfl) (hpl : (backTo pos (starEach [] X.env)).any (·.1) = false := by rfl) :
    PS X (.Raise (some (.Call (.Name x p) [a] [] pos)) none pos2) (fun _ σ H => tMkO C (spErr C f) [] ta σ H fun cls d H' => W cls d σ H') := by
  obtain ⟨fI, fd, h1, h2, F, b⟩ := T.ini
  exact ps_raise hc tk (pmk_oex (k := 1) T.oex h1 h2 F (hr.mono hk) b .nil (fun _ _ _ _ _ _ _ z => z.elim) hg T.gl ha hdb he hpl)
end
section
variable {P : Program} {w : World} {K : PySem.W.Frag} {mg : Str → Option Value} {base : Heap}
/-- __init__ of an error whose body is self.f = f -/
theorem ok_err {f : Str} {qual : Str} {C fI : Addr} {fd : FuncData} {st : Stmt} (F : Fun K "__init__" qual st fI fd) (S : FnScope ["self", f] ["self", f] (defScope st)) (ox : OexC K C) (no : PySem.W.findIn K (.ref C) f = some none)
    (hb : ∀ (X : Cx), X.N = ([("self" : Str), f] : List Str) → X.env.scope = defScope st → PSs X (defBody st) (tOst X.K f (tVar 0) (tVar 1))) : FnOk P w K mg base CX0 1 fI fd ["self", f] (spErr C f) := by
  refine F.ok S (fun vs H Q E h => ?_) (fun cdv A outer s H vs Q E hr h => ⟨_, hb _ rfl rfl, ?_⟩)
  · obtain ⟨a, y, rfl, _⟩ := h; rfl
  · obtain ⟨a, y, rfl, ha, k⟩ := h
    exact ⟨_, rfl, _, rfl, a, C, rfl, ox, no, .inl ⟨ha, fun dx h1 h2 => k dx h1 h2⟩⟩
end
end Fm

namespace Fm
open PySem PySem.Spec PyProof.Rows L2
/-! ### the package's own looks at things: rows, names, tables -/
noncomputable def bP (p : Prop) : Bool := @decide p (Classical.propDecidable p)
theorem bP_t {p : Prop} (h : p) : bP p = true := by unfold bP; exact @decide_eq_true p (Classical.propDecidable p) h
theorem bP_f {p : Prop} (h : ¬ p) : bP p = false := by unfold bP; exact @decide_eq_false p (Classical.propDecidable p) h
def NmD (d : PyData) : Prop := ∃ w, d = .str w ∧ IsNm w
def spIsRow : Sp := fun vs H Q _ => ∃ (S : Addr → Prop) (q : Bool) (n : Nat) (x : V) (d : PyData), vs = [x] ∧ Dt S q H n x d ∧ ∀ H', Kp [] H H' → Q (.bl (isRowD d)) H'
def spIsName : Sp := fun vs H Q _ => ∃ (S : Addr → Prop) (q : Bool) (n : Nat) (x : V) (d : PyData), vs = [x] ∧ Dt S q H n x d ∧ Q (.bl (bP (NmD d))) H
/-- a row of lo to hi unlike names -/
def NmsD (lo hi : Nat) (d : PyData) (ws : List Str) : Prop := (d = .list (ws.map .str) ∨ d = .tuple (ws.map .str)) ∧ (∀ w ∈ ws, IsNm w) ∧ ws.Nodup ∧ lo ≤ ws.length ∧ ws.length ≤ hi
def spAreNames : Sp := fun vs H Q _ => ∃ (S : Addr → Prop) (q : Bool) (n : Nat) (x : V) (d : PyData) (lo hi : Nat), vs = [x, .int lo, .int hi] ∧ Dt S q H n x d ∧ ∀ H', Kp [] H H' → Q (.bl (bP (∃ ws, NmsD lo hi d ws))) H'
def TabD (d : PyData) (t : Str × List Str) : Prop := ∃ e, d = .tuple [.str t.1, e] ∧ IsNm t.1 ∧ NmsD 1 4 e t.2
def spIsTable : Sp := fun vs H Q _ => ∃ (S : Addr → Prop) (q : Bool) (n : Nat) (x : V) (d : PyData), vs = [x] ∧ Dt S q H n x d ∧ ∀ H', Kp [] H H' → Q (.bl (bP (∃ t, TabD d t))) H'
theorem abc_mem {c : Nat} : c ∈ abc.cps.toList ↔ 97 ≤ c ∧ c ≤ 122 := by
  constructor
  · intro h
    obtain ⟨n, hn, e⟩ := List.getElem_of_mem h
    rw [abc_size] at hn
    have := abc_at n hn
    rw [List.getElem?_eq_getElem (by rw [abc_size]; exact hn)] at this
    have := Option.some.inj this
    omega
  · intro h
    have := abc_at (c - 97) (by omega)
    have e : 97 + (c - 97) = c := by omega
    rw [e] at this
    exact List.mem_of_getElem? this
theorem DtAll.take {S : Addr → Prop} {q : Bool} {H : Hp} : ∀ {n : Nat} {v : List V} {d : List PyData}, DtAll S q H n v d → ∀ i : Nat, DtAll S q H n (v.take i) (d.take i)
  | _, _, _, .nil, i => by rw [List.take_nil, List.take_nil]; exact .nil
  | _, _, _, .cons a b, 0 => .nil
  | _, _, _, .cons a b, i + 1 => .cons a (DtAll.take b i)
theorem DtAll.strs {S : Addr → Prop} {q : Bool} {H : Hp} {n : Nat} : ∀ {v : List V} {ws : List Str}, DtAll S q H n v (ws.map .str) → v = ws.map V.str
  | [], [], _ => rfl
  | _ :: _, [], h => by cases h
  | [], _ :: _, h => by cases h
  | x :: v, w :: ws, h => by
    cases h with
    | cons a b =>
      cases a
      rw [DtAll.strs b]; rfl
theorem strs_at {us : List Str} {i : Nat} {w : Str} (h : (us.map PyData.str)[i]? = some (.str w)) : us[i]? = some w := by
  rw [List.getElem?_map] at h
  cases e : us[i]? with
  | none => rw [e] at h; cases h
  | some y => rw [e] at h; cases h; rfl
theorem strs_inj : ∀ {us ws : List Str}, us.map PyData.str = ws.map PyData.str → us = ws
  | [], [], _ => rfl
  | [], _ :: _, h => by cases h
  | _ :: _, [], h => by cases h
  | a :: us, b :: ws, h => by
    rw [List.map_cons, List.map_cons] at h
    injection h with h1 h2
    injection h1 with h1
    rw [h1, strs_inj h2]
theorem strs_take {us ws : List Str} {i : Nat} (h : ws.map PyData.str = (us.map PyData.str).take i) : us.take i = ws := by
  rw [← List.map_take] at h
  exact (strs_inj h).symm
theorem cut_take {xs : List V} {i : Nat} (h : i ≤ xs.length) : cutV xs none (some ((i : Nat) : Int)) = xs.take i := by
  have e1 : HT.sIx xs.length xs.length (some ((i : Nat) : Int)) = min i xs.length := HT.sIx_nat _ _ i
  unfold cutV
  rw [e1, HT.sIx_none, List.drop_zero, Nat.sub_zero, Nat.min_eq_left h]
section
variable {P : Program} {w : World} {K : PySem.W.Frag} {mg : Str → Option Value} {base : Heap}
theorem cut_not {n i : Nat} (h : i < n) : ¬ (HT.sIx n 0 none = 0 ∧ HT.sIx n n (some ((i : Nat) : Int)) = n) := by
  rintro ⟨_, e⟩
  rw [HT.sIx_nat] at e
  omega
theorem ok_is_row (B : Bi mg) (D : Dfn K mg "is_row" s_is_row ["thing"]) : Has P w K mg base CX0 "is_row" ["thing"] 1 spIsRow := by
  refine D.has sc_is_row (fun vs H Q E h => ?_) (fun f cdv A outer s H vs Q E hr h => ?_)
  · obtain ⟨S, q, n, x, d, rfl, _⟩ := h; rfl
  · obtain ⟨S, q, n, x, d, rfl, hx, k⟩ := h
    refine ⟨_, (pss_one (ps_ret (pe_callB call_isiT (by rfl) B.isinstance (by decide +kernel) (pa_cons (pv 0) (pa_cons (pe_tup (pa_cons (pe_bltn (v := .ty "list") (by rfl) B.list (by decide +kernel) rfl) (pa_cons (pe_bltn (v := .ty "tuple") (by rfl) B.tuple (by decide +kernel) rfl) pa_nil))) pa_nil))))), ?_⟩
    exact ⟨_, rfl, (by show 2 ≤ sizeLine; decide), fun T hT => ⟨_, T, _, _, _, _, rfl, upd_same, .cons (.ty _) (.cons (.ty _) .nil), (hx.keep (Kp.new hT)).ty, kit_row _, k _ (Kp.new hT)⟩⟩
theorem ok_is_name {tk : Tok} (B : Bi mg) (L : mg "LETTERS_tables" = some (.str abc tk)) (D : Dfn K mg "is_name" s_is_name ["thing"]) : Has P w K mg base CX0 "is_name" ["thing"] 1 spIsName := by
  refine D.has sc_is_name (fun vs H Q E h => ?_) (fun f cdv A outer s H vs Q E hr h => ?_)
  · obtain ⟨S, q, n, x, d, rfl, _⟩ := h; rfl
  · obtain ⟨S, q, n, x, d, rfl, hx, k⟩ := h
    refine ⟨_, (pss_cons (ps_if (PW.pt (pw_or (pt_not (pt_val (pe_callB call_isi (by rfl) B.isinstance (by decide +kernel) (pa_cons (pv 0) (pa_cons (pe_bltn (v := .ty "str") (by rfl) B.str (by decide +kernel) rfl) pa_nil))))) (pw_or1 (pt_not (pt_chain op_le op_le pe_int (pe_callB call_len (by rfl) B.len PySem.boot_len (pa_cons (pv 0) pa_nil)) pe_int)))))
  (pss_one (ps_ret pe_bl))
  pss_nil)
  (pss_cons (ps_for PassesOwn.never rfl (pi_str (pv 0)) (pg_name (i := 1) sc_is_name.nd rfl (by first | exact Or.inl rfl | exact Or.inr rfl))
  (pss_one (ps_if (pt_cmpR op_notIn_sign (pv 1) (pe_glob (v := .str abc) rfl L ⟨_, rfl⟩) (by rfl))
  (pss_one (ps_ret pe_bl))
  pss_nil)))
  (pss_one (ps_ret pe_bl)))), ?_⟩
    refine ⟨_, rfl, _, _, _, _, _, rfl, .ty _, hx.ty, kit_ty (kb_str _), _, rfl, ?_⟩
    cases hx with
    | str z hz =>
      refine iteF ?_
      refine ⟨_, rfl, _, z.length, rfl, ⟨Nat.le_trans hz (by decide), rfl⟩, _, _, rfl, rfl, _, rfl, ?_⟩
      by_cases h1 : 1 ≤ z.length
      · rw [decide_eq_true (show (1 : Int) ≤ (z.length : Int) by omega)]
        refine iteT ?_
        refine ⟨_, _, rfl, rfl, _, rfl, ?_⟩
        by_cases h8 : z.length ≤ 8
        · rw [decide_eq_true (show (z.length : Int) ≤ 8 by omega)]
          refine iteF ?_
          refine ⟨_, rfl, z, rfl, ?_⟩
          refine for_it walk_str (fun i σ H' => (∃ v : Option V, σ = [some (.str z), v]) ∧ H' = H ∧ ∀ j c, j < i → z.cps[j]? = some c → 97 ≤ c ∧ c ≤ 122) ⟨⟨none, rfl⟩, rfl, fun j c h => absurd h (by omega)⟩ (fun _ _ _ _ _ => trivial) ?_ ?_
          · rintro i v σ H1 H2 hi ⟨⟨v0, rfl⟩, rfl, hj⟩ ⟨rfl, c, hc, rfl⟩
            refine ⟨_, rfl, c, abc, rfl, rfl, _, rfl, ?_⟩
            by_cases hm : c ∈ abc.cps.toList
            · rw [decide_eq_true hm]
              refine iteF ?_
              refine ⟨⟨_, rfl⟩, rfl, fun j c' h e => ?_⟩
              by_cases z' : j = i
              · rw [z', hc] at e
                cases e
                exact abc_mem.mp hm
              · exact hj j c' (by omega) e
            · rw [decide_eq_false hm]
              refine iteT ?_
              rw [bP_f] at k
              · exact k
              · rintro ⟨w', e, n1, n2, n3⟩
                cases e
                exact hm (abc_mem.mpr (n3 c (by
                  have : z.cps.toList[i]? = some c := by simpa using hc
                  exact List.mem_of_getElem? this)))
          · rintro σ H1 ⟨⟨v0, rfl⟩, rfl, hj⟩
            rw [bP_t] at k
            · exact k
            · refine ⟨z, rfl, h1, h8, fun c hc => ?_⟩
              obtain ⟨j, hj', e⟩ := List.getElem_of_mem hc
              have hj2 : j < z.cps.size := by simpa using hj'
              exact hj j c hj2 (by rw [← e]; simp [hj2])
        · rw [decide_eq_false (show ¬ (z.length : Int) ≤ 8 by omega)]
          refine iteT ?_
          rw [bP_f] at k
          · exact k
          · rintro ⟨w', e, n1, n2, n3⟩
            cases e
            exact h8 n2
      · rw [decide_eq_false (show ¬ (1 : Int) ≤ (z.length : Int) by omega)]
        refine iteF ?_
        refine ⟨_, rfl, ?_⟩
        refine iteT ?_
        rw [bP_f] at k
        · exact k
        · rintro ⟨w', e, n1, n2, n3⟩
          cases e
          exact h1 n1
    | _ =>
      refine iteT (iteT ?_)
      rw [bP_f] at k
      · exact k
      · rintro ⟨w', e, _⟩
        cases e
end
end Fm

namespace Fm
open PySem PySem.Spec PyProof.Rows L2
theorem DtAll.set {S : Addr → Prop} {q : Bool} {H : Hp} : ∀ {n : Nat} {v : List V} {d : List PyData}, DtAll S q H n v d → ∀ (i : Nat) {x : V} {e : PyData}, Dt S q H n x e → DtAll S q H n (v.set i x) (d.set i e)
  | _, _, _, .nil, i, _, _, _ => .nil
  | _, _, _, .cons a b, 0, _, _, h => .cons h b
  | _, _, _, .cons a b, i + 1, _, _, h => .cons a (DtAll.set b i h)
theorem catA_in {K : PySem.W.Frag} {H : Hp} {a b : Addr} {xs ys : List V} {Q : VK} (ha : H a = some (.tup xs)) (hb : H b = some (.tup ys)) (hl : xs.length + ys.length ≤ sizeLine) (q : ∀ r H', Kp [] H H' → H' r = some (.tup (xs ++ ys)) → Q (.ref r) H') : rCatA K (.ref a) (.ref b) H Q := by
  refine ⟨a, b, xs, ys, rfl, rfl, .inl (.inl ha), .inl (.inl hb), hl, fun e => ?_, fun _ e => ?_, fun _ _ p hp => q p _ (Kp.new hp) upd_same⟩
  · exact q b H (Kp.refl _) (by rw [e, List.nil_append]; exact hb)
  · exact q a H (Kp.refl _) (by rw [e, List.append_nil]; exact ha)
theorem cutN_drop {xs : List V} {i : Nat} (h : i ≤ xs.length) : cutV xs (some ((i : Nat) : Int)) none = xs.drop i := by
  unfold cutV
  rw [show HT.sIx xs.length 0 (some ((i : Nat) : Int)) = min i xs.length from HT.sIx_nat _ _ i, HT.sIx_none, Nat.min_eq_left h]
  exact List.take_of_length_le (by rw [List.length_drop]; omega)
theorem ixN_nat {n j : Nat} (h : j < n) : ixN n (j : Int) = some j := by
  unfold ixN
  rw [if_pos (by omega), if_pos (by omega), Int.toNat_natCast]
theorem atI_nat {α : Type} {xs : List α} {k : Nat} {x : α} (h : xs[k]? = some x) : atI xs (k : Int) = some x := atI_of (by omega) (by simpa using h)
def spInt : Sp := fun vs H Q _ => ∃ (S : Addr → Prop) (q : Bool) (n : Nat) (x : V) (d : PyData), vs = [x] ∧ Dt S q H n x d ∧ Q (.bl (isI d && !isB d)) H
def RwAt (H : Hp) (p : Addr) (xs : List V) : Prop := Rd H p (.lst xs) ∨ H p = some (.tup xs)
theorem RwAt.keep {H H' : Hp} {p : Addr} {xs : List V} (h : RwAt H p xs) (k : Kp [] H H') : RwAt H' p xs := h.elim (fun h => .inl (k.rd (fun z => nomatch z) h)) (fun h => .inr (k.tp _ _ h))
theorem RwAt.sq {H : Hp} {K : PySem.W.Frag} {p : Addr} {xs : List V} (h : RwAt H p xs) : SqL K H p xs ∨ SqT K H p xs := h.elim (fun h => .inl (.inl h)) (fun h => .inr (.inl (.inl h)))
theorem RwAt.len {H : Hp} {K : PySem.W.Frag} {p : Addr} {xs : List V} (h : RwAt H p xs) : LenV K (.ref p) H xs.length := h.elim (fun h => .inl ⟨_, .inl h, rfl⟩) (fun h => .inr ⟨_, .inl (.inl h), rfl⟩)
theorem RwAt.ix {H : Hp} {K : PySem.W.Frag} {p : Addr} {xs : List V} {i : Nat} {v : V} {Q : VK} (h : RwAt H p xs) (e : xs[i]? = some v) (q : Q v H) : rIxL K (.ref p) (.int (i : Int)) H Q ∨ rIxT K (.ref p) (.int (i : Int)) H Q :=
  h.elim (fun h => .inl ⟨p, xs, _, v, rfl, rfl, .inl h, atI_nat e, q⟩) (fun h => .inr ⟨p, xs, _, v, rfl, rfl, .inl (.inl h), atI_nat e, q⟩)
theorem Dt.row {S : Addr → Prop} {q : Bool} {H : Hp} {n : Nat} {x : V} {d : PyData} (h : Dt S q H n x d) (hd : isRowD d = true) : ∃ ds m p xs, x = .ref p ∧ n = m + 1 ∧ RwAt H p xs ∧ xs.length ≤ 1000000 ∧ S p ∧ DtAll S q H m xs ds ∧ ((d = .list ds ∧ isT d = false ∧ Rd H p (.lst xs)) ∨ (d = .tuple ds ∧ isT d = true ∧ H p = some (.tup xs))) := by
  cases h with
  | @lst m p xs ds rx lx ax => exact ⟨ds, m, p, xs, rfl, rfl, .inl rx, lx.1, lx.2, ax, .inl ⟨rfl, rfl, rx⟩⟩
  | @tup m p xs ds rx lx ax => exact ⟨ds, m, p, xs, rfl, rfl, .inr rx, lx.1, lx.2, ax, .inr ⟨rfl, rfl, rx⟩⟩
  | _ => cases hd
end Fm

namespace Fm
open PySem PySem.Spec PyProof.Rows L2
/-! ### data of tuples alone: nothing changes it -/
abbrev TupH (H : Hp) : Addr → Prop := fun a => ∃ xs, H a = some (.tup xs)
abbrev Im (H : Hp) (n : Nat) (v : V) (d : PyData) : Prop := Dt (TupH H) true H n v d
abbrev ImAll (H : Hp) (n : Nat) (v : List V) (d : List PyData) : Prop := DtAll (TupH H) true H n v d
theorem tupH_keep {ms : List Addr} {H H' : Hp} (k : Kp ms H H') (a : Addr) (o : HO) (s : TupH H a) (e : H a = some o) : H' a = some o := by
  obtain ⟨xs, h⟩ := s
  rw [h] at e
  cases e
  exact k.tp a xs h
theorem Im.kp {ms : List Addr} {H H' : Hp} (k : Kp ms H H') {n : Nat} {v : V} {d : PyData} (h : Im H n v d) : Im H' n v d := Dt.keepS (fun a o s e => tupH_keep k a o s e) (fun a ⟨xs, h⟩ => ⟨xs, k.tp a xs h⟩) h
theorem ImAll.kp {ms : List Addr} {H H' : Hp} (k : Kp ms H H') {n : Nat} {v : List V} {d : List PyData} (h : ImAll H n v d) : ImAll H' n v d := DtAll.keepS (fun a o s e => tupH_keep k a o s e) (fun a ⟨xs, h⟩ => ⟨xs, k.tp a xs h⟩) h
/-! ### tables -/
def dTab (t : Str × List Str) : PyData := .tuple [.str t.1, .tuple (t.2.map .str)]
def dTabs (tbs : List (Str × List Str)) : PyData := .tuple (tbs.map dTab)
inductive TabsD : List PyData → List (Str × List Str) → Prop
  | nil : TabsD [] []
  | cons {d : PyData} {ds : List PyData} {t : Str × List Str} {ts : List (Str × List Str)} : TabD d t → TabsD ds ts → TabsD (d :: ds) (t :: ts)
theorem TabsD.len : ∀ {ds : List PyData} {ts : List (Str × List Str)}, TabsD ds ts → ds.length = ts.length
  | _, _, .nil => rfl
  | _, _, .cons _ h => congrArg (· + 1) h.len
theorem TabsD.snoc : ∀ {ds : List PyData} {ts : List (Str × List Str)} {d : PyData} {t : Str × List Str}, TabsD ds ts → TabD d t → TabsD (ds ++ [d]) (ts ++ [t])
  | _, _, _, _, .nil, h => .cons h .nil
  | _, _, _, _, .cons a b, h => .cons a (b.snoc h)
theorem TabsD.take : ∀ {ds : List PyData} {ts : List (Str × List Str)}, TabsD ds ts → ∀ i : Nat, TabsD (ds.take i) (ts.take i)
  | _, _, .nil, i => by rw [List.take_nil, List.take_nil]; exact .nil
  | _, _, .cons a b, 0 => .nil
  | _, _, .cons a b, i + 1 => .cons a (b.take i)
theorem TabsD.get : ∀ {ds : List PyData} {ts : List (Str × List Str)}, TabsD ds ts → ∀ {i : Nat} {d : PyData}, ds[i]? = some d → ∃ t, ts[i]? = some t ∧ TabD d t
  | _, _, .cons a b, 0, d, h => by cases h; exact ⟨_, rfl, a⟩
  | _, _, .cons a b, i + 1, d, h => b.get (i := i) h
theorem nms_inj {lo hi : Nat} {d : PyData} {ws ws' : List Str} (h : NmsD lo hi d ws) (h' : NmsD lo hi d ws') : ws = ws' := by
  rcases h.1 with e | e <;> rcases h'.1 with e' | e' <;> rw [e] at e'
  · exact strs_inj (PyData.list.inj e')
  · cases e'
  · cases e'
  · exact strs_inj (PyData.tuple.inj e')
theorem TabD.inj {d : PyData} {t t' : Str × List Str} (h : TabD d t) (h' : TabD d t') : t = t' := by
  obtain ⟨e, rfl, _, n⟩ := h
  obtain ⟨e', q, _, n'⟩ := h'
  injection q with q
  injection q with q1 q2
  injection q2 with q2 q3
  injection q1 with q1
  subst q2
  exact Prod.ext q1 (nms_inj n n')
theorem TabsD.inj : ∀ {ds : List PyData} {ts ts' : List (Str × List Str)}, TabsD ds ts → TabsD ds ts' → ts = ts'
  | _, _, _, .nil, .nil => rfl
  | _, _, _, .cons a b, .cons a' b' => by rw [a.inj a', b.inj b']
/-- the things of a row -/
def RowD (d : PyData) (ds : List PyData) : Prop := d = .list ds ∨ d = .tuple ds
def ShpD (d : PyData) (tbs : List (Str × List Str)) : Prop := ∃ ds, RowD d ds ∧ 1 ≤ ds.length ∧ ds.length ≤ 5 ∧ TabsD ds tbs ∧ (tbs.map (·.1)).Nodup
/-- the first thing that is wrong -/
def ShpBad (d : PyData) (i : Int) : Prop := (i = -1 ∧ ¬ ∃ ds, RowD d ds ∧ 1 ≤ ds.length ∧ ds.length ≤ 5) ∨
  ∃ ds k e tbs, RowD d ds ∧ 1 ≤ ds.length ∧ ds.length ≤ 5 ∧ i = ((k : Nat) : Int) ∧ ds[k]? = some e ∧ TabsD (ds.take k) tbs ∧ (tbs.map (·.1)).Nodup ∧ ¬ ∃ t, TabD e t ∧ t.1 ∉ tbs.map (·.1)
def ShapeAt (C : Addr) (H : Hp) (p : Addr) (tbs : List (Str × List Str)) : Prop := ∃ dx v, H p = some (.ins C dx [("tables", v)]) ∧ Im H 3 v (dTabs tbs)
theorem ShapeAt.kp {C : Addr} {H H' : Hp} {p : Addr} {tbs : List (Str × List Str)} {ms : List Addr} (h : ShapeAt C H p tbs) (k : Kp ms H H') (hp : p ∉ ms) : ShapeAt C H' p tbs := by
  obtain ⟨dx, v, h1, h2⟩ := h
  exact ⟨dx, v, k.at_ _ _ h1 hp, Im.kp k h2⟩
def spShapeI (C CE : Addr) : Sp := fun vs H Q E => ∃ (p dx : Addr) (S : Addr → Prop) (q : Bool) (n : Nat) (x : V) (d : PyData), vs = [.ref p, x] ∧ H p = some (.ins C dx []) ∧ Dt S q H n x d ∧
  (∀ tbs H', ShpD d tbs → Kp [p] H H' → ShapeAt C H' p tbs → Q .non H') ∧
  (∀ (i : Int) (dd : Addr) (H' : Hp), ShpBad d i → Kp [] H H' → H dd = none → H' dd = some (.xd [("at", .int i)]) → E (.ref CE) (some dd) H')
/-- what the top has of the class Shape -/
structure ShCls (K : PySem.W.Frag) (mg : Str → Option Value) (C : Addr) : Prop where
  cl : Cls K C
  nT : NoAttr K C "tables"
  mgC : mg "Shape" = some (.ref C)
theorem dtAll_strs {S : Addr → Prop} {q : Bool} {H : Hp} {n : Nat} : ∀ {ws : List Str}, (∀ w ∈ ws, w.length ≤ 1000000) → DtAll S q H n (ws.map V.str) (ws.map PyData.str)
  | [], _ => .nil
  | w :: ws, h => .cons (.str w (h w List.mem_cons_self)) (dtAll_strs fun x hx => h x (List.mem_cons_of_mem _ hx))
theorem Same.dt {S : Addr → Prop} {q : Bool} {H H' : Hp} {n : Nat} {v : V} {d : PyData} (h : Dt S q H n v d) (k : Same H H') (kt : ∀ a xs, H a = some (.tup xs) → H' a = some (.tup xs)) : Dt S q H' n v d := h.keep ⟨fun a o e _ => k a o e, kt⟩
section
variable {P : Program} {w : World} {K : PySem.W.Frag} {mg : Str → Option Value} {base : Heap}
end
end Fm

namespace PySem.W
open PySem PySem.Calls PyProof.Rows
section
variable {prog : Program} {w : World} {A : Around} {E : Value → Shared → Prop} {s : Shared} {K : Frag} {x C f L : Addr} {h₀ : Heap} {m : Str → Option Value} {ox : Obj} {od : Option Obj} {b tb : Value}
/-- a special name that the class leaves to a built-in -/
theorem fm_ifBound {M : Model} {nm : Str} {bid : String} {as : List Value} {Q : Option Value → Shared → Prop} (X : K.In s.heap) (I : InstAt s.heap x ox C od) (hs : findIn K (.ref C) nm = some (some (.builtin bid))) (hb : ∀ self, bindSpecial (.builtin bid) self = pure (.builtin bid, [self]))
    (h : wpAny M A (call (.builtin bid) (.ref x :: as)) (fun v => Q (some v)) E s) : wpAny M A (callSpecialIfBound? (.ref x) nm as) Q E s := by
  have last : wpAny M A (call (.builtin bid) ([.ref x] ++ as) >>= fun v => pure (some v)) Q E s := wpAny_bind (wpAny_mono h (fun _ _ q => wpAny_pure q) fun _ _ q => q)
  simp only [callSpecialIfBound?, bindSpecialIfBound?]
  refine wpAny_holding (wpAny_bind (wpAny_bind (wpAny_bind (I.type.here ((looks_findIn X hs).here ?_)))))
  refine wpAny_bind (wpAny_askSetting (wpAny_ite ?_))
  split
  · rw [hb]
    exact wpAny_bind (wpAny_pure (wpAny_pure (by exact last)))
  · rw [hb]
    exact wpAny_tryCatch (wpAny_bind (wpAny_pure (wpAny_pure (by exact last))))
/-- a != b by object.__ne__ over the class's own __eq__ -/
theorem fm_ne {Q : Value → Shared → Prop} (hu : A.units + 1 < cLine) (F : Fr h₀ L s.heap m) (X₀ : K.In h₀) (I : InstAt s.heap x ox C od) (hb : Looks (model prog w) s.heap (typeOf b) tb) (hn : notFirst K C tb = true)
    (hne : findIn K (.ref C) "__ne__" = some (some (.builtin "object.__ne__"))) (heq : findIn K (.ref C) "__eq__" = some (some (.ref f))) (hf : isFn K (.ref f) = true) (hob : subIn K (.ref C) (.type "object") = some true)
    (h : wpAny (model prog w) A.in1 (call (.ref f) [.ref x, b]) (fun v s' => ∃ r, v = .bool r ∧ Q (.bool (!r)) s') E s) : wpAny (model prog w) A (richCompare .NotEq (.ref x) b) Q E s := by
  have X := X₀.keeps F.keep
  have one : wpAny (model prog w) A (tryCompare (.ref x) "__ne__" b) (fun r s' => ∃ v, r = some v ∧ Q v s') E s := by
    unfold tryCompare
    refine wpAny_bind (fm_ifBound X I hne PySem.F.cmp_object.ne.bind ?_)
    have sub : Looks (model prog w) s.heap (isInstance (.ref x) (.type "object")) true := (I.type (M := model prog w)).andThen (looks_subIn X hob)
    refine wpAny_call (codeAny_call_builtin PySem.F.cmp_object.ne.plain PySem.F.cmpEntry_ne (check_slot PySem.F.cmpKind_ne PySem.F.cmpSplit_ne sub (PySem.F.cmpArgs_ne _ _) ?_))
    unfold Builtin.«object.__ne__»
    refine wpAny_bind (wpAny_of_eq (a := ((Value.ref x : Value), [b])) (by first | rfl | (simp only [slotArgs]; rfl)) ?_)
    refine wpAny_bind (wpAny_cRoomFor hu ?_)
    refine wpAny_bind (ifBound_K X I heq hf (wpAny_mono h (fun v s' hv => ?_) fun _ _ e => e))
    obtain ⟨r, rfl, q⟩ := hv
    refine wpAny_bind (wpAny_truthy_bool ?_)
    exact wpAny_pure (wpAny_pure ⟨_, rfl, q⟩)
  unfold richCompare
  simp only [oneThing_ref]
  refine wpAny_holding (wpAny_bind (wpAny_cRoomFor (Nat.lt_of_succ_lt hu) ?_))
  refine wpAny_bind (I.type.here (wpAny_bind (hb.here ?_)))
  split
  · rename_i q
    have e : subIn K tb (.ref C) = some false := by
      rcases Bool.or_eq_true_iff.mp hn with e | e
      · rw [beq_iff_eq.mp e] at q; simp at q
      · exact beq_iff_eq.mp e
    refine wpAny_bind ((looks_subIn X e).here ?_)
    simp only [Bool.false_eq_true, if_false]
    refine wpAny_bind (wpAny_mono one (fun r s' z => ?_) fun _ _ e => e)
    obtain ⟨v, rfl, hq⟩ := z
    exact wpAny_pure hq
  · refine wpAny_bind (wpAny_pure ?_)
    simp only [Bool.false_eq_true, if_false]
    refine wpAny_bind (wpAny_mono one (fun r s' z => ?_) fun _ _ e => e)
    obtain ⟨v, rfl, hq⟩ := z
    exact wpAny_pure hq
end
end PySem.W
namespace Fm
open PySem PySem.Spec PyProof.Rows L2
/-- what the top says of a class with an own ==, the right side being of type t -/
structure EqC (K : PySem.W.Frag) (C f : Addr) : Prop where
  eq : PySem.W.findIn K (.ref C) "__eq__" = some (some (.ref f))
  fn : PySem.W.isFn K (.ref f) = true
  ne : PySem.W.findIn K (.ref C) "__ne__" = some (some (.builtin "object.__ne__"))
  ob : PySem.W.subIn K (.ref C) (.type "object") = some true
section
variable {X : Cx} {CX : CXT} {C f : Addr} {fd : FuncData} {ps : List Str} {sp : Sp} {k : Nat} {E : XK}
def rEqO (K : PySem.W.Frag) (C : Addr) (sp : Sp) (E : XK) : R2 := fun x y H Q => ∃ (a dx : Addr) (fs : List (Str × V)) (t : Value), x = .ref a ∧ H a = some (.ins C dx fs) ∧ TyX K H y t ∧ PySem.W.notFirst K C t = true ∧ sp [x, y] H (fun v H' => ∃ b, v = .bl b ∧ Q (.bl b) H') E
def rNeO (K : PySem.W.Frag) (C : Addr) (sp : Sp) (E : XK) : R2 := fun x y H Q => ∃ (a dx : Addr) (fs : List (Str × V)) (t : Value), x = .ref a ∧ H a = some (.ins C dx fs) ∧ TyX K H y t ∧ PySem.W.notFirst K C t = true ∧ sp [x, y] H (fun v H' => ∃ b, v = .bl b ∧ Q (.bl (!b)) H') E
theorem op_eqO (T : EqC X.K C f) (F : FnOk X.prog X.w X.K X.mg X.base CX k f fd ps sp) (hb : Binds X.K fd ps []) (hx : Passes CX X E) (hr : Room k X.A) : OpR X (compareOp .Eq) (rEqO X.K C sp E) := by
  intro pins s σ H x y u v Q I rx ry h
  obtain ⟨a, dx, fs, t, rfl, ha, ty, nf, q⟩ := h
  cases rx
  obtain ⟨mA, J, _⟩ := ins_get I.hok ha
  obtain ⟨od, J, _⟩ := J.look
  obtain ⟨m, hF⟩ := I.fr
  obtain ⟨P, Z, p, _⟩ := kit_of I ry ty
  show wpAny (model X.prog X.w) X.A (richCompare .Eq (.ref a) v) (EP X pins σ Q) X.xe s
  refine PySem.W.cmp_K (op := .Eq) (tb := t) hr.units0 hF I.ok.mod.kin J (Z.ty _ _ I.kIn p) nf T.eq T.fn ?_
  refine wpAny_mono (run_fn (vs := [.ref a, y]) F hr hb .nil hx I (.cons rfl (.cons ry .nil)) q) (fun w s' hw => ?_) fun _ _ e => e
  obtain ⟨z, H', I', rz, b, rfl, qb⟩ := hw
  cases rz
  exact ⟨.bl b, H', I', rfl, qb⟩
theorem op_neO (T : EqC X.K C f) (F : FnOk X.prog X.w X.K X.mg X.base CX k f fd ps sp) (hb : Binds X.K fd ps []) (hx : Passes CX X E) (hr : Room (k + 1) X.A) : OpR X (compareOp .NotEq) (rNeO X.K C sp E) := by
  intro pins s σ H x y u v Q I rx ry h
  obtain ⟨a, dx, fs, t, rfl, ha, ty, nf, q⟩ := h
  cases rx
  obtain ⟨mA, J, _⟩ := ins_get I.hok ha
  obtain ⟨od, J, _⟩ := J.look
  obtain ⟨m, hF⟩ := I.fr
  obtain ⟨P, Z, p, _⟩ := kit_of I ry ty
  have hu : X.A.units + 1 < cLine := hu_of hr
  show wpAny (model X.prog X.w) X.A (richCompare .NotEq (.ref a) v) (EP X pins σ Q) X.xe s
  refine PySem.W.fm_ne (tb := t) hu hF I.ok.mod.kin J (Z.ty _ _ I.kIn p) nf T.ne T.eq T.fn T.ob ?_
  have e0 : Env0 X.prog X.w X.K X.mg X.base X.A.in1 X.stack s H := by
    have e := I.env0
    exact ⟨e.frames, e.mod, e.bs, e.bsz, e.funs, e.frf, e.hok, e.bare⟩
  have r2 : Vals [V.ref a, y] [Value.ref a, v] := .cons rfl (.cons ry .nil)
  have hl := F.len _ _ _ _ q
  refine wpAny_call (codeAny_mono (F.run X.A.in1 X.stack s H ⟨[.ref a, v], []⟩ [.ref a, v] [.ref a, y] _ E hr.in1 e0 (by
    have := hb s [.ref a, v] I.kIn (by simpa using hl)
    simpa using this) r2 q) fun r s' hq => ?_)
  cases r with
  | error e => exact hx pins σ H s e s' I hq
  | ok fl =>
    cases fl with
    | ret w =>
      obtain ⟨z, H', I', rz, b, rfl, qb⟩ := I.after hq
      cases rz
      exact ⟨b, rfl, .bl (!b), H', I', rfl, qb⟩
    | next => exact False.elim hq
    | brk => exact False.elim hq
    | cont => exact False.elim hq
end
end Fm

namespace Fm
open PySem PySem.Spec PyProof.Rows L2
/-! ### tables as data: equal as Python sees them -/
def GoodT (t : Str × List Str) : Prop := IsNm t.1 ∧ (∀ w ∈ t.2, IsNm w) ∧ t.2.Nodup ∧ 1 ≤ t.2.length ∧ t.2.length ≤ 4
def GoodTs (tbs : List (Str × List Str)) : Prop := (∀ t ∈ tbs, GoodT t) ∧ (tbs.map (·.1)).Nodup ∧ 1 ≤ tbs.length ∧ tbs.length ≤ 5
theorem TabD.good {d : PyData} {t : Str × List Str} (h : TabD d t) : GoodT t := by
  obtain ⟨e, _, n, m⟩ := h
  exact ⟨n, m.2.1, m.2.2.1, m.2.2.2.1, m.2.2.2.2⟩
theorem TabsD.good : ∀ {ds : List PyData} {ts : List (Str × List Str)}, TabsD ds ts → ∀ t ∈ ts, GoodT t
  | _, _, .cons a b, t, h => by
    rcases List.mem_cons.mp h with rfl | h
    · exact a.good
    · exact b.good t h
theorem ShpD.good {d : PyData} {ts : List (Str × List Str)} (h : ShpD d ts) : GoodTs ts := by
  obtain ⟨ds, _, l1, l5, t1, t2⟩ := h
  exact ⟨t1.good, t2, by rw [← t1.len]; exact l1, by rw [← t1.len]; exact l5⟩
theorem eqv_strs : ∀ ws vs : List Str, PyData.eqvAll (ws.map .str) (vs.map .str) = decide (ws = vs)
  | [], [] => by simp [PyData.eqvAll]
  | [], _ :: _ => by simp [PyData.eqvAll]
  | _ :: _, [] => by simp [PyData.eqvAll]
  | w :: ws, v :: vs => by
    simp only [List.map_cons, PyData.eqvAll, PyData.eqv, eqv_strs ws vs]
    by_cases h : w = v
    · subst h; simp
    · simp [h]
theorem eqv_tab (t u : Str × List Str) : PyData.eqv (dTab t) (dTab u) = decide (t = u) := by
  simp only [dTab, PyData.eqv, PyData.eqvAll, eqv_strs]
  by_cases h : t.1 = u.1
  · by_cases h' : t.2 = u.2
    · have : t = u := Prod.ext h h'
      subst this; simp
    · have : t ≠ u := fun z => h' (by rw [z])
      simp [h', this]
  · have : t ≠ u := fun z => h (by rw [z])
    simp [h, this]
theorem eqv_tabsL : ∀ ts us : List (Str × List Str), PyData.eqvAll (ts.map dTab) (us.map dTab) = decide (ts = us)
  | [], [] => by simp [PyData.eqvAll]
  | [], _ :: _ => by simp [PyData.eqvAll]
  | _ :: _, [] => by simp [PyData.eqvAll]
  | t :: ts, u :: us => by
    simp only [List.map_cons, PyData.eqvAll, eqv_tab, eqv_tabsL ts us]
    by_cases h : t = u
    · subst h; simp
    · simp [h]
theorem eqv_tabs (ts us : List (Str × List Str)) : PyData.eqv (dTabs ts) (dTabs us) = decide (ts = us) := by
  simp only [dTabs, PyData.eqv, eqv_tabsL]
theorem strOk_nm {w : Str} (h : IsNm w) : PyData.strOk w = true := by
  unfold PyData.strOk
  rw [Array.all_eq_true']
  intro c hc
  have := h.2.2 c (by simpa using hc)
  simp
  omega
theorem lay_strs : ∀ {ws : List Str}, (∀ w ∈ ws, IsNm w) → PyData.canLayAll0 (ws.map .str) = true
  | [], _ => by simp [PyData.canLayAll0]
  | w :: ws, h => by
    simp only [List.map_cons, PyData.canLayAll0, PyData.canLay0, strOk_nm (h w List.mem_cons_self), lay_strs fun x hx => h x (List.mem_cons_of_mem _ hx), Bool.and_self]
theorem lay_tabs : ∀ {ts : List (Str × List Str)}, (∀ t ∈ ts, GoodT t) → PyData.canLayAll0 (ts.map dTab) = true
  | [], _ => by simp [PyData.canLayAll0]
  | t :: ts, h => by
    have g := h t List.mem_cons_self
    simp only [List.map_cons, PyData.canLayAll0, dTab, PyData.canLay0, strOk_nm g.1, lay_strs g.2.1, lay_tabs fun x hx => h x (List.mem_cons_of_mem _ hx), Bool.and_self]
theorem dep_strs : ∀ ws : List Str, PyData.depthAll (ws.map .str) = 0
  | [] => by simp [PyData.depthAll]
  | w :: ws => by simp [PyData.depthAll, PyData.depth, dep_strs ws]
theorem dep_tabs : ∀ ts : List (Str × List Str), PyData.depthAll (ts.map dTab) ≤ 2
  | [] => by simp [PyData.depthAll]
  | t :: ts => by
    have := dep_tabs ts
    simp only [List.map_cons, PyData.depthAll, dTab, PyData.depth, dep_strs]
    omega
theorem shaped_tabs {ts : List (Str × List Str)} (h : ∀ t ∈ ts, GoodT t) : SeqAt.shaped (dTabs ts) = true := by
  have := dep_tabs ts
  unfold SeqAt.shaped
  simp only [dTabs, PyData.canLay0, PyData.depth, lay_tabs h, Bool.true_and, decide_eq_true_eq]
  omega
mutual
theorem Dt.dp {S : Addr → Prop} {q : Bool} {H : Hp} {K : PySem.W.Frag} : ∀ {n : Nat} {v : V} {d : PyData}, Dt S q H n v d → d.canLay0 = true → Dp K H v d
  | _, _, _, .non, _ => .non
  | _, _, _, .bl b, _ => .bl b
  | _, _, _, .int b, _ => .int b
  | _, _, _, .str b h, _ => .str b
  | _, _, _, .lst r l a, h => .lst (.inl r) (DtAll.dp a (by simpa [PyData.canLay0] using h))
  | _, _, _, .tup r l a, h => .tup (.inl (.inl r)) (DtAll.dp a (by simpa [PyData.canLay0] using h))
  | _, _, _, .dic r l a, h => by simp [PyData.canLay0] at h
theorem DtAll.dp {S : Addr → Prop} {q : Bool} {H : Hp} {K : PySem.W.Frag} : ∀ {n : Nat} {v : List V} {d : List PyData}, DtAll S q H n v d → PyData.canLayAll0 d = true → DpAll K H v d
  | _, _, _, .nil, _ => .nil
  | _, _, _, .cons a b, h => by
    have h' := Bool.and_eq_true_iff.mp (show (_ && _) = true by simpa only [PyData.canLayAll0] using h)
    exact .cons (Dt.dp a h'.1) (DtAll.dp b h'.2)
end
theorem lay_dTabs {ts : List (Str × List Str)} (h : ∀ t ∈ ts, GoodT t) : (dTabs ts).canLay0 = true := by
  simp only [dTabs, PyData.canLay0, lay_tabs h]
/-- an instance's class, as isinstance asks of it -/
structure InsX (K : PySem.W.Frag) (C : Addr) : Prop where
  cl : Cls K C
  ha : PySem.W.findIn K (.ref C) "__class__" = some (some (.builtin "object.__class__"))
  hn : PySem.W.specialIn K (.builtin "object.__class__") "__get__" = some (some (.builtin "getset_descriptor.__get__"))
  htk : PySem.W.takesIn K (.builtin "object.__class__") = some true
  hm : PySem.W.mroIn K C (.type "object") = some true
  dat : ∀ T ∈ ["NoneType", "bool", "int", "str", "list", "tuple", "dict"], PySem.W.kitOne K (.type T) (.ref C) = some false
theorem InsX.ty {K : PySem.W.Frag} {C : Addr} (T : InsX K C) {H : Hp} {a dx : Addr} {fs : List (Str × V)} (e : H a = some (.ins C dx fs)) : TyX K H (.ref a) (.ref C) := .base (.ins e T.cl T.ha T.hn T.htk T.hm)
theorem InsX.datD {K : PySem.W.Frag} {C : Addr} (T : InsX K C) (d : PyData) : PySem.W.kitOne K (.type (tyS d)) (.ref C) = some false := T.dat _ (by cases d <;> simp [tyS])
theorem kit_self {K : PySem.W.Frag} {C : Addr} : PySem.W.kitOne K (.ref C) (.ref C) = some true := by
  unfold PySem.W.kitOne
  rw [if_pos (by simp)]
def spShEq (C : Addr) : Sp := fun vs H Q _ => ∃ (p : Addr) (y : V) (tbs : List (Str × List Str)), vs = [.ref p, y] ∧ ShapeAt C H p tbs ∧ (∀ t ∈ tbs, GoodT t) ∧
  ((∃ p' us, y = .ref p' ∧ ShapeAt C H p' us ∧ (∀ t ∈ us, GoodT t) ∧ Q (.bl (decide (tbs = us))) H) ∨ ∃ S q n d, Dt S q H n y d ∧ Q (.bl false) H)
def spFields (C CE : Addr) : Sp := fun vs H Q E => ∃ (p : Addr) (S : Addr → Prop) (q : Bool) (n : Nat) (x : V) (d : PyData) (tbs : List (Str × List Str)), vs = [.ref p, x] ∧ ShapeAt C H p tbs ∧ (tbs.map (·.1)).Nodup ∧ Dt S q H n x d ∧
  (∀ t ∈ tbs, d = .str t.1 → ∀ a : Addr, Im H 2 (.ref a) (.tuple (t.2.map .str)) → Q (.ref a) H) ∧
  ((∀ t ∈ tbs, d ≠ .str t.1) → ∀ (dd : Addr) (H' : Hp), Kp [] H H' → H dd = none → H' dd = some (.xd [("value", x)]) → E (.ref CE) (some dd) H')
theorem Im.tab {H : Hp} {n : Nat} {v : V} {t : Str × List Str} (h : Im H (n + 2) v (dTab t)) : ∃ a b, v = .ref a ∧ H a = some (.tup [.str t.1, .ref b]) ∧ Im H (n + 1) (.ref b) (.tuple (t.2.map .str)) := by
  cases h with
  | tup r l a =>
    cases a with
    | cons a0 a =>
      cases a with
      | cons a1 a =>
        cases a
        cases a0
        cases id a1 with
        | tup r1 l1 a11 => exact ⟨_, _, rfl, r, a1⟩
end Fm

namespace Fm
open PySem PySem.Spec PyProof.Rows L2
/-! ### values and rows of values -/
def InV (n : Int) : Prop := -1000000000 ≤ n ∧ n ≤ 1000000000
def VlD (d : PyData) : Prop := ∃ n, d = .int n ∧ InV n
def spIsVal : Sp := fun vs H Q _ => ∃ (S : Addr → Prop) (q : Bool) (n : Nat) (x : V) (d : PyData), vs = [x] ∧ Dt S q H n x d ∧ Q (.bl (bP (VlD d))) H
/-- a row of many values -/
def ValsD (many : Nat) (d : PyData) (ns : List Int) : Prop := RowD d (ns.map .int) ∧ ns.length = many ∧ ∀ n ∈ ns, InV n
def spAreVals : Sp := fun vs H Q _ => ∃ (S : Addr → Prop) (q : Bool) (n : Nat) (x : V) (d : PyData) (many : Nat), vs = [x, .int many] ∧ Dt S q H n x d ∧ ∀ H', Kp [] H H' → Q (.bl (bP (∃ ns, ValsD many d ns))) H'
theorem ints_map_inj : ∀ {a b : List Int}, a.map PyData.int = b.map PyData.int → a = b
  | [], [], _ => rfl
  | [], _ :: _, h => by cases h
  | _ :: _, [], h => by cases h
  | x :: a, y :: b, h => by
    injection h with h1 h2
    injection h1 with h1
    rw [h1, ints_map_inj h2]
theorem DtAll.ints {S : Addr → Prop} {q : Bool} {H : Hp} {n : Nat} : ∀ {v : List V} {ws : List Int}, DtAll S q H n v (ws.map .int) → v = ws.map V.int
  | [], [], _ => rfl
  | _ :: _, [], h => by cases h
  | [], _ :: _, h => by cases h
  | x :: v, w :: ws, h => by
    cases h with
    | cons a b =>
      cases a
      rw [DtAll.ints b]; rfl
section
variable {P : Program} {w : World} {K : PySem.W.Frag} {mg : Str → Option Value} {base : Heap}
theorem ok_is_integer (B : Bi mg) (D : Dfn K mg "is_integer" s_is_integer ["thing"]) : Has P w K mg base CX0 "is_integer" ["thing"] 1 spInt := by
  refine D.has sc_is_integer (fun vs H Q E h => ?_) (fun f cdv A outer s H vs Q E hr h => ?_)
  · obtain ⟨S, q, n, x, d, rfl, _⟩ := h; rfl
  · obtain ⟨S, q, n, x, d, rfl, hx, k⟩ := h
    refine ⟨_, (pss_one (ps_ret (pe_and (pe_callB call_isi (by rfl) B.isinstance (by decide +kernel) (pa_cons (pv 0) (pa_cons (pe_bltn (v := .ty "int") (by rfl) B.int (by decide +kernel) rfl) pa_nil))) (pe_one (pe_not (pe_callB call_isi (by rfl) B.isinstance (by decide +kernel) (pa_cons (pv 0) (pa_cons (pe_bltn (v := .ty "bool") (by rfl) B.bool (by decide +kernel) rfl) pa_nil)))))))), ?_⟩
    refine ⟨_, rfl, _, _, _, _, _, rfl, .ty _, hx.ty, kit_ty (kb_int _), _, rfl, ?_⟩
    cases hi : isI d with
    | false => rw [hi] at k; exact iteF k
    | true => rw [hi] at k; exact iteT ⟨_, rfl, _, _, _, _, _, rfl, .ty _, hx.ty, kit_ty (kb_bool _), _, rfl, k⟩
theorem ok_is_value {tk : Tok} (B : Bi mg) (M : mg "MOST_VALUE" = some (.int 1000000000 tk)) (D : Dfn K mg "is_value" s_is_value ["thing"]) (G_is_integer : Has P w K mg base CX0 "is_integer" ["thing"] 1 spInt) : Has P w K mg base CX0 "is_value" ["thing"] 2 spIsVal := by
  refine D.has sc_is_value (fun vs H Q E h => ?_) (fun f cdv A outer s H vs Q E hr h => ?_)
  · obtain ⟨S, q, n, x, d, rfl, _⟩ := h; rfl
  · obtain ⟨S, q, n, x, d, rfl, hx, k⟩ := h
    refine ⟨_, (pss_one (ps_ret (pe_and (pe_has G_is_integer (hr.mono (by omega)) (pa_cons (pv 0) pa_nil)) (pe_one (pe_chain op_le op_le (pe_un un_neg (pe_glob (v := .int 1000000000) rfl M ⟨_, rfl⟩)) (pv 0) (pe_glob (v := .int 1000000000) rfl M ⟨_, rfl⟩)))))), ?_⟩
    refine ⟨_, rfl, S, q, n, x, d, rfl, hx, _, rfl, ?_⟩
    cases hi : (isI d && !isB d) with
    | false =>
      refine iteF ?_
      rw [bP_f] at k
      · exact k
      · rintro ⟨n, rfl, _⟩; cases hi
    | true =>
      refine iteT ?_
      cases hx with
      | int i =>
        refine ⟨_, rfl, _, rfl, _, _, rfl, rfl, ?_⟩
        refine ⟨_, rfl, ?_⟩
        refine ite2 (fun h1 => ?_) (fun h1 => ?_)
        · have h1 := of_decide_eq_true h1
          refine ⟨_, _, rfl, rfl, ?_⟩
          by_cases h2 : i ≤ 1000000000
          · rw [bP_t ⟨i, rfl, h1, h2⟩] at k
            show Q (V.bl (decide (i ≤ 1000000000))) H
            rw [decide_eq_true h2]; exact k
          · show Q (V.bl (decide (i ≤ 1000000000))) H
            rw [decide_eq_false h2]
            rw [bP_f] at k
            · exact k
            · rintro ⟨n, e, _, h3⟩; cases e; exact h2 h3
        · have h1 : ¬ (-1000000000 ≤ i) := fun h => h1 (decide_eq_true h)
          rw [bP_f] at k
          · exact k
          · rintro ⟨n, e, h3, _⟩; cases e; exact h1 h3
      | _ => cases hi
end
end Fm

namespace Fm
open PySem PySem.Spec PyProof.Rows L2
theorem Kp.via {ms ms' : List Addr} {H H1 H2 : Hp} (k1 : Kp ms H H1) (k2 : Kp ms' H1 H2) (h : ∀ x ∈ ms', x ∈ ms ∨ H x = none) : Kp ms H H2 := by
  refine ⟨fun a o e n => k2.at_ a o (k1.at_ a o e n) fun z => ?_, fun a xs e => k2.tp a xs (k1.tp a xs e)⟩
  rcases h a z with h | h
  · exact n h
  · rw [h] at e
    cases e
theorem Bag.new {H : Hp} {b c p : Addr} (B : Bag H b c) (h : H p = none) : p ≠ b ∧ p ≠ c := by
  obtain ⟨o, ho⟩ := B.someB
  obtain ⟨o', ho'⟩ := B.someC
  refine ⟨fun z => ?_, fun z => ?_⟩
  · rw [← z, h] at ho
    cases ho
  · rw [← z, h] at ho'
    cases ho'
def spTables : Sp := fun vs H Q _ => ∃ (b c : Addr), vs = [.ref b] ∧ Bag H b c ∧ ∀ (t : Addr) (xs : List V) (tbs : List (Str × List Str)) (H' : Hp), Bag H' b c → Kp [b] H H' → H t = none → H' t = some (.lst xs) → ImAll H' 2 xs (tbs.map dTab) → GoodTs tbs → Q (.ref t) H'
theorem five : ∀ n : Nat, n < 5 → ∃ k : Nat, ([V.int 2, V.int 1, V.int 2, V.int 3, V.int 5] : List V)[n]? = some (.int k) ∧ 1 ≤ k ∧ k ≤ 5
  | 0, _ => ⟨2, rfl, by decide, by decide⟩
  | 1, _ => ⟨1, rfl, by decide, by decide⟩
  | 2, _ => ⟨2, rfl, by decide, by decide⟩
  | 3, _ => ⟨3, rfl, by decide, by decide⟩
  | 4, _ => ⟨5, rfl, by decide, by decide⟩
  | n + 5, h => absurd h (by omega)
section
variable {P : Program} {w : World} {K : PySem.W.Frag} {mg : Str → Option Value} {base : Heap}
theorem ok_tables (B : Bi mg) (D : Dfn K mg "_law_tables" s__law_tables ["_law_bag_here"]) (G_pick : Has P w K mg base CX0 "_law_pick" ["_law_bag_here", "_law_many"] 1 spPick) (G_name : Has P w K mg base CX0 "_law_name" ["_law_bag_here", "_law_taken"] 2 spName) :
    Has P w K mg base CX0 "_law_tables" ["_law_bag_here"] 3 spTables := by
  refine D.has sc__law_tables (fun vs H Q E h => ?_) (fun f cdv A outer s H vs Q E hr h => ?_)
  · obtain ⟨b, c, rfl, _⟩ := h; rfl
  · obtain ⟨b, c, rfl, BG, k⟩ := h
    have hr1 : Room 1 _ := hr.mono (by decide)
    refine ⟨_, (pss_cons (ps_set (i := 1) sc__law_tables.nd rfl (by first | exact Or.inl rfl | exact Or.inr rfl) (pe_lst pa_nil))
  (pss_cons (ps_set (i := 2) sc__law_tables.nd rfl (by first | exact Or.inl rfl | exact Or.inr rfl) (pe_lst pa_nil))
  (pss_cons (ps_for PassesOwn.never rfl (pi_range1 rfl B.range (pa_cons (pe_ix ix_list (pe_lst (pa_cons pe_int (pa_cons pe_int (pa_cons pe_int (pa_cons pe_int (pa_cons pe_int pa_nil)))))) (pe_has G_pick hr1 (pa_cons (pv 0) (pa_cons pe_int pa_nil))) (fun _ _ => rfl)) pa_nil)) (pg_name (i := 3) sc__law_tables.nd rfl (by first | exact Or.inl rfl | exact Or.inr rfl))
  (pss_cons (ps_set (i := 4) sc__law_tables.nd rfl (by first | exact Or.inl rfl | exact Or.inr rfl) (pe_has G_name hr (pa_cons (pv 0) (pa_cons (pv 1) pa_nil))))
  (pss_cons (ps_set (i := 5) sc__law_tables.nd rfl (by first | exact Or.inl rfl | exact Or.inr rfl) (pe_lst pa_nil))
  (pss_cons (ps_for PassesOwn.never rfl (pi_range1 rfl B.range (pa_cons (pe_op op_add pe_int (pe_has G_pick hr1 (pa_cons (pv 0) (pa_cons pe_int pa_nil)))) pa_nil)) (pg_name (i := 6) sc__law_tables.nd rfl (by first | exact Or.inl rfl | exact Or.inr rfl))
  (pss_one (ps_expr (pe_has G_name hr (pa_cons (pv 0) (pa_cons (pv 5) pa_nil))))))
  (pss_one (ps_expr (pe_bm PySem.F.plainAttrs_list PySem.F.slot_list_append PySem.F.type_list_append mt_append (pv 2) (pa_cons (pe_tup (pa_cons (pv 4) (pa_cons (pe_callTy call_tuple_of (by rfl) B.tuple (by decide +kernel) (pa_cons (pv 5) pa_nil)) pa_nil))) pa_nil))))))))
  (pss_one (ps_ret (pv 2)))))), ?_⟩
    refine ⟨by show 0 ≤ sizeLine; decide, fun pt npt => ⟨by show 0 ≤ sizeLine; decide, fun pl npl => ⟨by show 5 ≤ sizeLine; decide, fun p5 np5 => ?_⟩⟩⟩
    have tl : pt ≠ pl := fun z => by rw [← z, upd_same] at npl; cases npl
    have hpl : H pl = none := by rw [upd_ne (Ne.symm tl)] at npl; exact npl
    have k0 : Kp [] H (upd (upd (upd H pt (.lst [])) pl (.lst [])) p5 (.lst [.int 2, .int 1, .int 2, .int 3, .int 5])) := ((Kp.new npt).snoc npl).snoc np5
    have e1 : upd (upd (upd H pt (.lst [])) pl (.lst [])) p5 (.lst [.int 2, .int 1, .int 2, .int 3, .int 5]) pt = some (.lst []) := by
      have x1 : pt ≠ p5 := fun z => by rw [← z, upd_ne tl, upd_same] at np5; cases np5
      rw [upd_ne x1, upd_ne tl, upd_same]
    have e2 : upd (upd (upd H pt (.lst [])) pl (.lst [])) p5 (.lst [.int 2, .int 1, .int 2, .int 3, .int 5]) pl = some (.lst []) := by
      have x1 : pl ≠ p5 := fun z => by rw [← z, upd_same] at np5; cases np5
      rw [upd_ne x1, upd_same]
    have e3 : upd (upd (upd H pt (.lst [])) pl (.lst [])) p5 (.lst [.int 2, .int 1, .int 2, .int 3, .int 5]) p5 = some (.lst [.int 2, .int 1, .int 2, .int 3, .int 5]) := upd_same
    obtain ⟨tb, tc⟩ := BG.new npt
    obtain ⟨lb, lc⟩ := BG.new hpl
    refine ⟨_, rfl, b, c, 5, rfl, BG.keep0 k0, by decide, by decide, fun r H1 r0 r1 B1 k1 => ?_⟩
    have p5b : p5 ≠ b := (BG.keep0 ((Kp.new npt).snoc npl) |>.new np5).1
    have f1 : H1 pt = some (.lst []) := k1.at_ _ _ e1 (by simpa using tb)
    have f2 : H1 pl = some (.lst []) := k1.at_ _ _ e2 (by simpa using lb)
    have f3 : H1 p5 = _ := k1.at_ _ _ e3 (by simpa using p5b)
    have kH1 : Kp [b] H H1 := k0.zero.trans k1
    obtain ⟨kk, hk, kk1, kk5⟩ := five r.toNat (by omega)
    refine ⟨p5, _, r, .int kk, rfl, rfl, SqL.of f3, atI_of r0 hk, (kk : Int), rfl, by omega, by omega, ?_⟩
    refine for_range (lo := 0) (n := (kk : Int).toNat) (fun i σ H' => (∃ v3 v4 v5 v6 : Option V, σ = [some (.ref b), some (.ref pt), some (.ref pl), v3, v4, v5, v6]) ∧ Bag H' b c ∧ Kp [b] H H' ∧
        ∃ (tbs : List (Str × List Str)) (xs : List V), tbs.length = i ∧ H' pt = some (.lst ((tbs.map (·.1)).map V.str)) ∧ H' pl = some (.lst xs) ∧ xs.length = i ∧ ImAll H' 2 xs (tbs.map dTab) ∧ (∀ t ∈ tbs, GoodT t) ∧ (tbs.map (·.1)).Nodup)
      ⟨⟨none, none, none, none, rfl⟩, B1, kH1, [], [], rfl, f1, f2, rfl, .nil, (fun t h => nomatch h), List.nodup_nil⟩ ?_ ?_
    · rintro i σ H2 hi ⟨⟨v3, v4, v5, v6, rfl⟩, B2, k2, tbs, xs, t1, t2, t3, t4, t5, t6, t7⟩
      have hi5 : i < 5 := by omega
      refine ⟨_, rfl, _, rfl, b, c, pt, tbs.map (·.1), rfl, B2, t2, tb, tc, by rw [List.length_map]; omega, fun w1 H3 n1 nm1 B3 h3 k3 => ?_⟩
      have k3' : Kp [b] H H3 := k2.via k3 (by simp [npt])
      have lt : pl ∉ [b, pt] := by simp [lb, Ne.symm tl]
      have g3 : H3 pl = some (.lst xs) := k3.at_ _ _ t3 lt
      have i3 : ImAll H3 2 xs (tbs.map dTab) := ImAll.kp k3 t5
      refine ⟨by show 0 ≤ sizeLine; decide, fun pf npf => ?_⟩
      obtain ⟨fb, fc⟩ := B3.new npf
      have ft : pf ≠ pt := Ne.symm (ne_of_none h3 npf)
      have fl : pf ≠ pl := Ne.symm (ne_of_none g3 npf)
      have hpf : H pf = none := k3'.freeB B3 npf
      have k4 : Kp [b] H (upd H3 pf (.lst [])) := k3'.snoc npf
      refine ⟨_, rfl, b, c, 4, rfl, B3.keep0 (Kp.new npf), by decide, by decide, fun r4 H4 r40 r41 B4 k4' => ?_⟩
      have h4 : H4 pt = some (.lst ((tbs.map (·.1) ++ [w1]).map V.str)) := k4'.at_ _ _ (by rw [upd_ne (Ne.symm ft)]; exact h3) (by simpa using tb)
      have g4 : H4 pl = some (.lst xs) := k4'.at_ _ _ (by rw [upd_ne (Ne.symm fl)]; exact g3) (by simpa using lb)
      have f4 : H4 pf = some (.lst []) := k4'.at_ _ _ upd_same (by simpa using fb)
      have i4 : ImAll H4 2 xs (tbs.map dTab) := ImAll.kp k4' (ImAll.kp (Kp.new (ms := []) npf) i3)
      have k5 : Kp [b] H H4 := k4.trans k4'
      refine ⟨_, _, rfl, rfl, 1 + r4, rfl, by omega, by omega, ?_⟩
      refine for_range (lo := 0) (n := (1 + r4).toNat) (fun j σ H' => (∃ v6 : Option V, σ = [some (.ref b), some (.ref pt), some (.ref pl), some (.int (0 + (i : Int))), some (.str w1), some (.ref pf), v6]) ∧ Bag H' b c ∧ Kp [b] H H' ∧
          H' pt = some (.lst ((tbs.map (·.1) ++ [w1]).map V.str)) ∧ H' pl = some (.lst xs) ∧ ImAll H' 2 xs (tbs.map dTab) ∧ ∃ ws : List Str, ws.length = j ∧ H' pf = some (.lst (ws.map V.str)) ∧ (∀ w ∈ ws, IsNm w) ∧ ws.Nodup)
        ⟨⟨v6, rfl⟩, B4, k5, h4, g4, i4, [], rfl, f4, (fun w h => nomatch h), List.nodup_nil⟩ ?_ ?_
      · rintro j σ H5 hj ⟨⟨v6, rfl⟩, B5, k5', a1, a2, a3, ws, w1', w2, w3, w4⟩
        refine ⟨_, rfl, _, rfl, b, c, pf, ws, rfl, B5, w2, fb, fc, by omega, fun y H6 ny nmy B6 h6 k6 => ?_⟩
        have n1' : pt ∉ [b, pf] := by simp [tb, Ne.symm ft]
        have n2' : pl ∉ [b, pf] := by simp [lb, Ne.symm fl]
        refine ⟨⟨_, rfl⟩, B6, k5'.via k6 (by simp [hpf]), k6.at_ _ _ a1 n1', k6.at_ _ _ a2 n2', ImAll.kp k6 a3, ws ++ [y], by simp [w1'], h6, fun z hz => ?_, nd_snoc w4 nmy⟩
        rcases List.mem_append.mp hz with h | h
        · exact w3 z h
        · rw [List.mem_singleton.mp h]; exact ny
      · rintro σ H5 ⟨⟨v6, rfl⟩, B5, k5', a1, a2, a3, ws, w1', w2, w3, w4⟩
        refine ⟨_, rfl, .inl ⟨rfl, _, SqL.of a2⟩, _, rfl, _, rfl, pf, _, rfl, .inl ⟨SqL.of w2, fun u nu => ⟨by show 2 ≤ sizeLine; decide, fun q nq => ?_⟩⟩⟩
        have k6 : Kp [] H5 (upd (upd H5 u (.tup (ws.map V.str))) q (.tup [.str w1, .ref u])) := (Kp.new nu).snoc nq
        have a2' := k6.at_ _ _ a2 (fun z => nomatch z)
        refine ⟨pl, _, _, rfl, rfl, a2', by rw [t4]; exact small1000 (by omega), ?_⟩
        have k7 : Kp [pl] H5 (upd (upd (upd H5 u (.tup (ws.map V.str))) q (.tup [.str w1, .ref u])) pl (.lst (xs ++ [.ref q]))) := k6.zero.trans (Kp.updL a2' (by simp))
        have uq : u ≠ q := fun z => by rw [← z, upd_same] at nq; cases nq
        have ul : u ≠ pl := Ne.symm (ne_of_none a2 nu)
        have ql : q ≠ pl := fun z => by
          rw [z, upd_ne (Ne.symm ul), a2] at nq; cases nq
        refine ⟨⟨_, _, _, _, rfl⟩, B5.keep k7 (by simpa using Ne.symm lb) (by simpa using Ne.symm lc), k5'.via k7 (by simp [hpl]), tbs ++ [(w1, ws)], xs ++ [.ref q], by simp [t1], ?_, upd_same, by simp [t4], ?_, ?_, ?_⟩
        · have := k7.at_ _ _ a1 (by simpa using tl)
          rw [this]; simp
        · rw [List.map_append]
          refine DtAll.append (ImAll.kp k7 a3) (.cons ?_ .nil)
          have hu' : upd (upd (upd H5 u (.tup (ws.map V.str))) q (.tup [.str w1, .ref u])) pl (.lst (xs ++ [.ref q])) u = some (.tup (ws.map V.str)) := by rw [upd_ne ul, upd_ne uq, upd_same]
          have hq' : upd (upd (upd H5 u (.tup (ws.map V.str))) q (.tup [.str w1, .ref u])) pl (.lst (xs ++ [.ref q])) q = some (.tup [.str w1, .ref u]) := by rw [upd_ne ql, upd_same]
          exact .tup hq' ⟨by simp, _, hq'⟩ (.cons (.str _ (Nat.le_trans n1.2.1 (by decide))) (.cons (.tup hu' ⟨by rw [List.length_map]; omega, _, hu'⟩ (dtAll_strs fun w' hw' => Nat.le_trans (w3 w' hw').2.1 (by decide))) .nil))
        · intro t ht
          rcases List.mem_append.mp ht with h | h
          · exact t6 t h
          · rw [List.mem_singleton.mp h]
            exact ⟨n1, w3, w4, by show 1 ≤ ws.length; omega, by show ws.length ≤ 4; omega⟩
        · rw [List.map_append]
          exact nd_snoc t7 nm1
    · rintro σ H2 ⟨⟨v3, v4, v5, v6, rfl⟩, B2, k2, tbs, xs, t1, t2, t3, t4, t5, t6, t7⟩
      refine ⟨_, rfl, k pl xs tbs H2 B2 k2 hpl t3 t5 ⟨t6, t7, by omega, by omega⟩⟩
end
end Fm

namespace Fm
open PySem PySem.Spec PyProof.Rows L2
/-! ### symbols and rows of patterns -/
def SymOk : Key → Prop
  | .inl i => InV i
  | .inr s => s.length ≤ 1000000
def dSyms (ks : List Key) : PyData := .tuple (ks.map keyD)
def dPR (r : Str × List Key) : PyData := .tuple [.str r.1, dSyms r.2]
def PRowD (d : PyData) (r : Str × List Key) : Prop := ∃ e, d = .tuple [.str r.1, e] ∧ IsNm r.1 ∧ RowD e (r.2.map keyD) ∧ 1 ≤ r.2.length ∧ r.2.length ≤ 4 ∧ ∀ k ∈ r.2, SymOk k
inductive PRowsD : List PyData → List (Str × List Key) → Prop
  | nil : PRowsD [] []
  | cons {d : PyData} {ds : List PyData} {r : Str × List Key} {rs : List (Str × List Key)} : PRowD d r → PRowsD ds rs → PRowsD (d :: ds) (r :: rs)
theorem PRowsD.len : ∀ {ds : List PyData} {rs : List (Str × List Key)}, PRowsD ds rs → ds.length = rs.length
  | _, _, .nil => rfl
  | _, _, .cons _ h => congrArg (· + 1) h.len
theorem PRowsD.get : ∀ {ds : List PyData} {rs : List (Str × List Key)}, PRowsD ds rs → ∀ {i : Nat} {d : PyData}, ds[i]? = some d → ∃ r, rs[i]? = some r ∧ PRowD d r
  | _, _, .cons a b, 0, d, h => by cases h; exact ⟨_, rfl, a⟩
  | _, _, .cons a b, i + 1, d, h => b.get (i := i) h
theorem PRowsD.ok : ∀ {ds : List PyData} {rs : List (Str × List Key)}, PRowsD ds rs → ∀ r ∈ rs, IsNm r.1 ∧ 1 ≤ r.2.length ∧ r.2.length ≤ 4 ∧ ∀ k ∈ r.2, SymOk k
  | _, _, .nil, r, h => nomatch h
  | _, _, .cons ⟨_, _, a, _, b⟩ c, r, h => by
    rcases List.mem_cons.mp h with rfl | h
    · exact ⟨a, b⟩
    · exact c.ok r h
theorem Dt.sym {S : Addr → Prop} {q : Bool} {H : Hp} {n : Nat} {v : V} {k : Key} (h : Dt S q H n v (keyD k)) : v = kV k := by
  cases k <;> cases h <;> rfl
theorem DtAll.syms {S : Addr → Prop} {q : Bool} {H : Hp} {n : Nat} : ∀ {v : List V} {ks : List Key}, DtAll S q H n v (ks.map keyD) → v = ks.map kV
  | [], [], _ => rfl
  | _ :: _, [], h => by cases h
  | [], _ :: _, h => by cases h
  | x :: v, k :: ks, h => by
    cases h with
    | cons a b => rw [a.sym, DtAll.syms b]; rfl
theorem dt_sym {S : Addr → Prop} {q : Bool} {H : Hp} {n : Nat} : ∀ {k : Key}, SymOk k → Dt S q H n (kV k) (keyD k)
  | .inl _, _ => .int _
  | .inr _, h => .str _ h
theorem dt_syms {S : Addr → Prop} {q : Bool} {H : Hp} {n : Nat} : ∀ {ks : List Key}, (∀ k ∈ ks, SymOk k) → DtAll S q H n (ks.map kV) (ks.map keyD)
  | [], _ => .nil
  | k :: ks, h => .cons (dt_sym (h k List.mem_cons_self)) (dt_syms fun x hx => h x (List.mem_cons_of_mem _ hx))
theorem kb_key (k : Key) : kitB (tyS (keyD k)) "str" = some (match k with | .inl _ => false | .inr _ => true) := by
  cases k
  · exact kb_str (.int _)
  · exact kb_str (.str _)
theorem kV_ty {K : PySem.W.Frag} {H : Hp} {k : Key} : TyX K H (kV k) (.type (tyS (keyD k))) := by
  cases k
  · exact .base (.int _)
  · exact .base (.str _)
def rTupO (K : PySem.W.Frag) : List V → Hp → VK → Prop := fun xs H Q => ∃ p ys, xs = [.ref p] ∧ ((SqL K H p ys ∧ ∀ l, H l = none → Q (.ref l) (upd H l (.tup ys))) ∨ (SqT K H p ys ∧ Q (.ref p) H))
theorem tupO_in {K : PySem.W.Frag} {H : Hp} {f : Addr} {ys : List V} {Q : VK} (h : RwAt H f ys) (q : ∀ l H', Kp [] H H' → H' l = some (.tup ys) → Q (.ref l) H') : rTupO K [V.ref f] H Q := by
  rcases h with h | h
  · exact ⟨f, ys, rfl, .inl ⟨.inl h, fun l hl => q l _ (Kp.new hl) upd_same⟩⟩
  · exact ⟨f, ys, rfl, .inr ⟨.inl (.inl h), q f H (Kp.refl _) h⟩⟩
/-- a row as the given data tells it -/
theorem Dt.prow {S : Addr → Prop} {q : Bool} {H : Hp} {n : Nat} {v : V} {d : PyData} {r : Str × List Key} (h : Dt S q H n v d) (hr : PRowD d r) : ∃ a b m, v = .ref a ∧ n = m + 2 ∧ H a = some (.tup [.str r.1, .ref b]) ∧ RwAt H b (r.2.map kV) ∧ ∃ e, Dt S q H (m + 1) (.ref b) e ∧ isRowD e = true := by
  obtain ⟨e, rfl, n1, re, l1, l2, ok⟩ := hr
  cases h with
  | tup ra la aa =>
    cases aa with
    | cons a1 a2 =>
      cases a1
      cases a2 with
      | cons a3 a4 =>
        cases a4
        have hd : isRowD e = true := by rcases re with rfl | rfl <;> rfl
        obtain ⟨ds, m, p, xs, rfl, rfl, rw', _, _, ax, hds⟩ := a3.row hd
        have e' : ds = r.2.map keyD := by
          rcases hds with ⟨rfl, _⟩ | ⟨rfl, _⟩ <;> rcases re with e | e <;> cases e <;> rfl
        subst e'
        have := ax.syms
        subst this
        exact ⟨_, p, m, rfl, rfl, ra, rw', e, a3, hd⟩
def spChecked : Sp := fun vs H Q _ => ∃ (S : Addr → Prop) (q : Bool) (n : Nat) (x : V) (d : PyData) (es : List PyData) (ps : List (Str × List Key)), vs = [x] ∧ Dt S q H n x d ∧ RowD d es ∧ es.length ≤ 6 ∧ PRowsD es ps ∧
  ∀ L xs H', Kp [] H H' → H L = none → H' L = some (.lst xs) → ImAll H' 2 xs (ps.map dPR) → Q (.ref L) H'
section
variable {P : Program} {w : World} {K : PySem.W.Frag} {mg : Str → Option Value} {base : Heap}
theorem ok_checked {tk : Tok} (B : Bi mg) (M : mg "MOST_ROWS" = some (.int 6 tk)) (D : Dfn K mg "checked_rows" s_checked_rows ["rows"]) (G_is_row : Has P w K mg base CX0 "is_row" ["thing"] 1 spIsRow) (G_is_name : Has P w K mg base CX0 "is_name" ["thing"] 1 spIsName) (G_is_value : Has P w K mg base CX0 "is_value" ["thing"] 2 spIsVal) :
    Has P w K mg base CX0 "checked_rows" ["rows"] 3 spChecked := by
  refine D.has sc_checked_rows (fun vs H Q E h => ?_) (fun f cdv A outer s H vs Q E hr h => ?_)
  · obtain ⟨S, q, n, x, d, es, ps, rfl, _⟩ := h; rfl
  · obtain ⟨S, q, n, x, d, es, ps, rfl, hx, hd, l6, hps, k⟩ := h
    refine ⟨_, (pss_cons (ps_if (PW.pt (pw_or (pt_not (pt_val (pe_has G_is_row (hr.mono (by omega)) (pa_cons (pv 0) pa_nil)))) (pw_or1 (pt_cmpR op_gt (pe_callB call_len (by rfl) B.len PySem.boot_len (pa_cons (pv 0) pa_nil)) (pe_glob (v := .int 6) rfl M ⟨_, rfl⟩) (nomark _)))))
  (pss_one (ps_ret pe_non))
  pss_nil)
  (pss_cons (ps_set (i := 1) sc_checked_rows.nd rfl (by first | exact Or.inl rfl | exact Or.inr rfl) (pe_lst pa_nil))
  (pss_cons (ps_for PassesOwn.never rfl (pi_or (pi_list (pv 0)) (pi_tup (pv 0))) (pg_name (i := 2) sc_checked_rows.nd rfl (by first | exact Or.inl rfl | exact Or.inr rfl))
  (pss_cons (ps_if (PW.pt (pw_or (pt_not (pt_val (pe_callB call_isi (by rfl) B.isinstance (by decide +kernel) (pa_cons (pv 2) (pa_cons (pe_bltn (v := .ty "tuple") (by rfl) B.tuple (by decide +kernel) rfl) pa_nil))))) (pw_or1 (pt_cmpR op_ne (pe_callB call_len (by rfl) B.len PySem.boot_len (pa_cons (pv 2) pa_nil)) pe_int (nomark _)))))
  (pss_one (ps_ret pe_non))
  pss_nil)
  (pss_cons (ps_asg (pv 2) (pg_tup rfl (pgs_cons (pg_name (i := 3) sc_checked_rows.nd rfl (by first | exact Or.inl rfl | exact Or.inr rfl)) (pgs_cons (pg_name (i := 4) sc_checked_rows.nd rfl (by first | exact Or.inl rfl | exact Or.inr rfl)) pgs_nil))))
  (pss_cons (ps_if (PW.pt (pw_or (pt_not (pt_val (pe_has G_is_name (hr.mono (by omega)) (pa_cons (pv 3) pa_nil)))) (pw_or (pt_not (pt_val (pe_has G_is_row (hr.mono (by omega)) (pa_cons (pv 4) pa_nil)))) (pw_or1 (pt_not (pt_chain op_le op_le pe_int (pe_callB call_len (by rfl) B.len PySem.boot_len (pa_cons (pv 4) pa_nil)) pe_int))))))
  (pss_one (ps_ret pe_non))
  pss_nil)
  (pss_cons (ps_for PassesOwn.never rfl (pi_or (pi_list (pv 4)) (pi_tup (pv 4))) (pg_name (i := 5) sc_checked_rows.nd rfl (by first | exact Or.inl rfl | exact Or.inr rfl))
  (pss_one (ps_if (PW.pt (pw_and (pt_not (pt_val (pe_callB call_isi (by rfl) B.isinstance (by decide +kernel) (pa_cons (pv 5) (pa_cons (pe_bltn (v := .ty "str") (by rfl) B.str (by decide +kernel) rfl) pa_nil))))) (pw_and1 (pt_not (pt_val (pe_has G_is_value (hr.mono (by omega)) (pa_cons (pv 5) pa_nil)))))))
  (pss_one (ps_ret pe_non))
  pss_nil)))
  (pss_one (ps_expr (pe_bm PySem.F.plainAttrs_list PySem.F.slot_list_append PySem.F.type_list_append mt_append (pv 1) (pa_cons (pe_tup (pa_cons (pv 3) (pa_cons (pe_callTy (r := rTupO K) call_tuple_of (by rfl) B.tuple (by decide +kernel) (pa_cons (pv 4) pa_nil)) pa_nil))) pa_nil)))))))))
  (pss_one (ps_ret (pv 1)))))), ?_⟩
    have hD : isRowD d = true := by rcases hd with rfl | rfl <;> rfl
    refine ⟨_, rfl, S, q, n, x, d, rfl, hx, fun H1 k1 => ⟨_, rfl, ?_⟩⟩
    rw [hD]
    refine iteF ?_
    obtain ⟨es', m, p, xs, rfl, rfl, rx, lx, _, ax, hds⟩ := (hx.keep k1).row hD
    have e' : es' = es := by
      rcases hds with ⟨rfl, _⟩ | ⟨rfl, _⟩ <;> rcases hd with e | e <;> cases e <;> rfl
    subst e'
    have el := ax.len
    refine ⟨_, rfl, _, _, rfl, rx.len, _, _, rfl, rfl, _, rfl, ?_⟩
    rw [decide_eq_false (show ¬ ((6 : Int) < (xs.length : Nat)) by omega)]
    refine iteF ⟨by show 0 ≤ sizeLine; decide, fun L hL => ?_⟩
    rcases rx with r | r
    all_goals
      first
        | refine .inl ⟨_, rfl, p, rfl, ⟨_, .inl ((Kp.new (ms := []) hL).rd (fun z => nomatch z) r)⟩, for_it (walk_list (xs := xs)) (fun i σ H' => (∃ o2 o3 o4 o5, σ = [some (.ref p), some (.ref L), o2, o3, o4, o5]) ∧ Kp [] H1 H' ∧ ∃ zs, H' L = some (.lst zs) ∧ zs.length = i ∧ ImAll H' 2 zs ((ps.take i).map dPR)) ⟨⟨_, _, _, _, rfl⟩, Kp.new hL, [], upd_same, rfl, .nil⟩ (fun i σ H' _ h => .inl (h.2.1.rd (fun z => nomatch z) r)) ?_ ?_⟩
        | refine .inr ⟨_, rfl, p, rfl, ⟨_, .inl (.inl ((Kp.new (ms := []) hL).tp _ _ r))⟩, for_it (walk_tup (xs := xs)) (fun i σ H' => (∃ o2 o3 o4 o5, σ = [some (.ref p), some (.ref L), o2, o3, o4, o5]) ∧ Kp [] H1 H' ∧ ∃ zs, H' L = some (.lst zs) ∧ zs.length = i ∧ ImAll H' 2 zs ((ps.take i).map dPR)) ⟨⟨_, _, _, _, rfl⟩, Kp.new hL, [], upd_same, rfl, .nil⟩ (fun i σ H' _ h => .inl (.inl (h.2.1.tp _ _ r))) ?_ ?_⟩
      · rintro i u σ H2 H3 hi ⟨⟨o2, o3, o4, o5, rfl⟩, k2, zs, hz, lz, iz⟩ ⟨rfl, hu1⟩
        obtain ⟨e, he, du⟩ := ax.getV hu1
        obtain ⟨r1, hr1, pd⟩ := hps.get he
        obtain ⟨a, b, m', rfl, em, ha, rb, e', de, hde⟩ := (du.keep k2).prow pd
        obtain ⟨e1, rfl, nm1, _, l1, l4, ok1⟩ := pd
        refine ⟨_, rfl, _, _, _, _, _, rfl, .ty _, (du.keep k2).ty, kit_ty (kb_tuple _), _, rfl, iteF ?_⟩
        refine ⟨_, rfl, _, _, rfl, .inr ⟨_, .inl (.inl ha), rfl⟩, rfl, _, rfl, iteB (c := false) (by simp) (iteF ?_)⟩
        refine ⟨_, rfl, a, _, rfl, SqT.of ha, rfl, _, _, rfl, _, _, rfl, rfl, ?_⟩
        refine ⟨_, rfl, (fun _ => True), true, 0, .str r1.1, .str r1.1, rfl, .str _ (by have := nm1.2.1; omega), _, rfl, ?_⟩
        rw [bP_t ⟨_, rfl, nm1⟩]
        refine iteF ⟨_, rfl, S, q, _, .ref b, e', rfl, de, fun H3 k3 => ⟨_, rfl, ?_⟩⟩
        rw [hde]
        refine iteF ⟨_, rfl, _, _, rfl, (rb.keep k3).len, _, _, rfl, rfl, _, rfl, ?_⟩
        rw [List.length_map, decide_eq_true (show (1 : Int) ≤ (r1.2.length : Nat) by omega)]
        refine iteT ⟨_, _, rfl, rfl, _, rfl, ?_⟩
        rw [decide_eq_true (show ((r1.2.length : Nat) : Int) ≤ 4 by omega)]
        refine iteF ?_
        have k23 := k2.trans k3
        rcases rb.keep k3 with rb3 | rb3
        all_goals
          first
            | refine .inl ⟨_, rfl, b, rfl, ⟨_, .inl rb3⟩, for_it (walk_list (xs := r1.2.map kV)) (fun i σ H' => (∃ o5, σ = [some (.ref p), some (.ref L), some (.ref a), some (.str r1.1), some (.ref b), o5]) ∧ H' = H3) ⟨⟨_, rfl⟩, rfl⟩ (fun i σ H' _ h => .inl (h.2 ▸ rb3)) ?_ ?_⟩
            | refine .inr ⟨_, rfl, b, rfl, ⟨_, .inl (.inl rb3)⟩, for_it (walk_tup (xs := r1.2.map kV)) (fun i σ H' => (∃ o5, σ = [some (.ref p), some (.ref L), some (.ref a), some (.str r1.1), some (.ref b), o5]) ∧ H' = H3) ⟨⟨_, rfl⟩, rfl⟩ (fun i σ H' _ h => .inl (.inl (h.2 ▸ rb3))) ?_ ?_⟩
          · rintro j u σ H4 H5 hj ⟨⟨o5, rfl⟩, rfl⟩ ⟨rfl, hu2⟩
            obtain ⟨y, hy, rfl⟩ : ∃ y, r1.2[j]? = some y ∧ u = kV y := by
              rw [List.getElem?_map] at hu2
              cases ey : r1.2[j]? with
              | none => rw [ey] at hu2; cases hu2
              | some y => rw [ey] at hu2; cases hu2; exact ⟨y, rfl, rfl⟩
            have oky := ok1 y (List.mem_of_getElem? hy)
            refine ⟨_, rfl, _, _, _, _, _, rfl, .ty _, kV_ty, kit_ty (kb_key y), _, rfl, ?_⟩
            cases y with
            | inr sy => exact iteF (iteF ⟨⟨_, rfl⟩, rfl⟩)
            | inl iy =>
              refine iteT ⟨_, rfl, (fun _ => True), true, 0, .int iy, .int iy, rfl, .int _, _, rfl, ?_⟩
              rw [bP_t ⟨_, rfl, oky⟩]
              exact iteF ⟨⟨_, rfl⟩, rfl⟩
          · rintro σ H4 ⟨⟨o5, rfl⟩, rfl⟩
            refine ⟨_, rfl, .inl ⟨rfl, _, SqL.of (k3.at_ _ _ hz (fun z => nomatch z))⟩, _, rfl, _, rfl, ?_⟩
            dsimp only [tNil]
            refine tupO_in (rb.keep k3) fun l H4 k4 h4 => ⟨by show 2 ≤ sizeLine; decide, fun t ht => ?_⟩
            have k5 := (k3.trans k4).snoc (o := .tup [.str r1.1, .ref l]) ht
            have hz5 := k5.at_ _ _ hz (fun z => nomatch z)
            have kL : Kp [L] (upd H4 t (.tup [.str r1.1, .ref l])) (upd (upd H4 t (.tup [.str r1.1, .ref l])) L (.lst (zs ++ [.ref t]))) := Kp.updL hz5 (by simp)
            refine ⟨L, zs, _, rfl, rfl, hz5, by rw [lz]; exact small1000 (by omega), ?_⟩
            refine ⟨⟨_, _, _, _, rfl⟩, (k2.trans k5).late hL, zs ++ [.ref t], upd_same, by simp [lz], ?_⟩
            rw [take_snoc hr1, List.map_append]
            have hl7 := kL.tp _ _ ((Kp.new (ms := []) ht).tp _ _ h4)
            have ht7 := kL.tp _ _ (upd_same (H := H4) (a := t))
            refine (ImAll.kp (k5.zero.trans kL) iz).append (.cons ?_ .nil)
            exact .tup ht7 ⟨by show 2 ≤ 1000000; decide, ⟨_, ht7⟩⟩ (.cons (.str _ (by have := nm1.2.1; omega)) (.cons (.tup hl7 ⟨by rw [List.length_map]; omega, ⟨_, hl7⟩⟩ (dt_syms ok1)) .nil))
      · rintro σ H2 ⟨⟨o2, o3, o4, o5, rfl⟩, k2, zs, hz, lz, iz⟩
        rw [el, hps.len, List.take_length] at iz
        exact ⟨_, rfl, k L zs H2 (k1.trans k2) (k1.same.free hL) hz iz⟩
end
end Fm

namespace Fm
open PySem PySem.Spec PyProof.Rows L2
/-! ### the names of the unknowns -/
def addN (ns : List Str) : Key → List Str
  | .inl _ => ns
  | .inr s => if s ∈ ns then ns else ns ++ [s]
theorem addN_inr (ns : List Str) (t : Str) : addN ns (.inr t) = if t ∈ ns then ns else ns ++ [t] := rfl
def addR (ns : List Str) (r : Str × List Key) : List Str := r.2.foldl addN ns
def namesP (ps : List (Str × List Key)) : List Str := ps.foldl addR []
def ltr (i : Nat) : Str := ⟨#[97 + i]⟩
def nmKvFrom (j : Nat) (ns : List Str) : List (Key × V) := (ns.zipIdx j).map fun p => (.inr p.1, .str (ltr p.2))
abbrev nmKv (ns : List Str) : List (Key × V) := nmKvFrom 0 ns
def ren (ns : List Str) : Key → Key
  | .inl i => .inl i
  | .inr s => if s ∈ ns then .inr (ltr (ns.idxOf s)) else .inr s
theorem ren_inr (ns : List Str) (s : Str) : ren ns (.inr s) = if s ∈ ns then .inr (ltr (ns.idxOf s)) else .inr s := rfl
theorem nmKv_len (j : Nat) (ns : List Str) : (nmKvFrom j ns).length = ns.length := by unfold nmKvFrom; rw [List.length_map, List.length_zipIdx]
theorem nmKv_keys : ∀ (ns : List Str) (j : Nat), (nmKvFrom j ns).map (·.1) = ns.map Sum.inr
  | [], _ => rfl
  | a :: ns, j => congrArg (Sum.inr a :: ·) (nmKv_keys ns (j + 1))
theorem nmKv_snoc (ns : List Str) (s : Str) : nmKv (ns ++ [s]) = nmKv ns ++ [(.inr s, .str (ltr ns.length))] := by
  unfold nmKv nmKvFrom
  rw [List.zipIdx_append, List.map_append, Nat.zero_add]; rfl
theorem valV_nmFrom (s : Str) : ∀ (ns : List Str) (j : Nat), valV (nmKvFrom j ns) (.inr s) = if s ∈ ns then some (.str (ltr (j + ns.idxOf s))) else none
  | [], _ => rfl
  | a :: ns, j => by
    have ih := valV_nmFrom s ns (j + 1)
    have e : nmKvFrom j (a :: ns) = (.inr a, .str (ltr j)) :: nmKvFrom (j + 1) ns := rfl
    rw [e]
    by_cases h : a = s
    · subst h
      unfold valV
      rw [List.find?_cons_of_pos (by simp), if_pos List.mem_cons_self, List.idxOf_cons_self]; rfl
    · have h' : ¬ s = a := fun z => h z.symm
      unfold valV at ih ⊢
      rw [List.find?_cons_of_neg (by simp [h]), ih]
      by_cases hm : s ∈ ns
      · rw [if_pos hm, if_pos (List.mem_cons_of_mem _ hm), show (a :: ns).idxOf s = ns.idxOf s + 1 from (by
        rw [List.idxOf_cons]
        cases e : (a == s) with
        | true => exact absurd (eq_of_beq e) h
        | false => rfl)]
        rw [show j + 1 + ns.idxOf s = j + (ns.idxOf s + 1) by omega]
      · rw [if_neg hm, if_neg (fun z => (List.mem_cons.mp z).elim h' hm)]
theorem valV_nm (s : Str) (ns : List Str) : valV (nmKv ns) (.inr s) = if s ∈ ns then some (.str (ltr (ns.idxOf s))) else none := by
  rw [valV_nmFrom, Nat.zero_add]
theorem valV_nmI (i : Int) (ns : List Str) : valV (nmKv ns) (.inl i) = none := by
  refine valV_out ?_
  rw [nmKv_keys]
  intro h
  obtain ⟨x, _, e⟩ := List.mem_map.mp h
  cases e
theorem ren_get (ns : List Str) (k : Key) : (valV (nmKv ns) k).getD (kV k) = kV (ren ns k) := by
  cases k with
  | inl i => rw [valV_nmI]; rfl
  | inr s =>
    rw [valV_nm]
    rw [ren_inr]
    by_cases h : s ∈ ns
    · rw [if_pos h, if_pos h]; rfl
    · rw [if_neg h, if_neg h]; rfl
theorem addN_sub (ns : List Str) (k : Key) : ∀ s ∈ ns, s ∈ addN ns k := by
  intro s h
  cases k with
  | inl _ => exact h
  | inr t =>
    rw [addN_inr]
    split
    · exact h
    · exact List.mem_append_left _ h
theorem addN_nd {ns : List Str} (k : Key) (h : ns.Nodup) : (addN ns k).Nodup := by
  cases k with
  | inl _ => exact h
  | inr t =>
    rw [addN_inr]
    split
    · exact h
    · rename_i hn
      exact List.nodup_append.mpr ⟨h, List.nodup_cons.mpr ⟨List.not_mem_nil, List.nodup_nil⟩, fun a ha b hb => by
        rw [List.mem_singleton.mp hb]; rintro rfl; exact hn ha⟩
theorem addN_len (ns : List Str) (k : Key) : (addN ns k).length ≤ ns.length + 1 := by
  cases k with
  | inl _ => exact Nat.le_succ _
  | inr t =>
    rw [addN_inr]
    split
    · exact Nat.le_succ _
    · rw [List.length_append]; exact Nat.le_refl _
theorem foldN_len : ∀ (ks : List Key) (ns : List Str), (ks.foldl addN ns).length ≤ ns.length + ks.length
  | [], _ => Nat.le_refl _
  | k :: ks, ns => by
    have a := foldN_len ks (addN ns k)
    have b := addN_len ns k
    rw [List.foldl_cons, List.length_cons]
    omega
theorem foldN_sub : ∀ (ks : List Key) (ns : List Str), ∀ s ∈ ns, s ∈ ks.foldl addN ns
  | [], _, _, h => h
  | k :: ks, ns, s, h => foldN_sub ks _ s (addN_sub ns k s h)
theorem foldN_in : ∀ (ks : List Key) (ns : List Str) (s : Str), Sum.inr s ∈ ks → s ∈ ks.foldl addN ns
  | k :: ks, ns, s, h => by
    rw [List.foldl_cons]
    rcases List.mem_cons.mp h with rfl | h
    · refine foldN_sub ks _ s ?_
      rw [addN_inr]
      split
      · assumption
      · exact List.mem_append_right _ List.mem_cons_self
    · exact foldN_in ks _ s h
theorem foldN_nd : ∀ (ks : List Key) {ns : List Str}, ns.Nodup → (ks.foldl addN ns).Nodup
  | [], _, h => h
  | k :: ks, _, h => foldN_nd ks (addN_nd k h)
theorem foldR_len : ∀ (ps : List (Str × List Key)) (ns : List Str), (∀ r ∈ ps, r.2.length ≤ 4) → (ps.foldl addR ns).length ≤ ns.length + 4 * ps.length
  | [], _, _ => Nat.le_refl _
  | r :: ps, ns, h => by
    have a := foldR_len ps (addR ns r) fun x hx => h x (List.mem_cons_of_mem _ hx)
    have b := foldN_len r.2 ns
    have c := h r List.mem_cons_self
    unfold addR at a
    rw [List.foldl_cons, List.length_cons]
    unfold addR
    omega
theorem foldR_sub : ∀ (ps : List (Str × List Key)) (ns : List Str), ∀ s ∈ ns, s ∈ ps.foldl addR ns
  | [], _, _, h => h
  | r :: ps, ns, s, h => foldR_sub ps _ s (foldN_sub r.2 ns s h)
theorem foldR_in : ∀ (ps : List (Str × List Key)) (ns : List Str) (s : Str), ∀ r ∈ ps, Sum.inr s ∈ r.2 → s ∈ ps.foldl addR ns
  | r :: ps, ns, s, x, hx, h => by
    rw [List.foldl_cons]
    rcases List.mem_cons.mp hx with rfl | hx
    · exact foldR_sub ps _ s (foldN_in x.2 ns s h)
    · exact foldR_in ps _ s x hx h
theorem foldR_nd : ∀ (ps : List (Str × List Key)) {ns : List Str}, ns.Nodup → (ps.foldl addR ns).Nodup
  | [], _, h => h
  | r :: ps, _, h => foldR_nd ps (foldN_nd r.2 h)
theorem namesP_nd (ps : List (Str × List Key)) : (namesP ps).Nodup := foldR_nd ps List.nodup_nil
theorem ltr_inj {i j : Nat} (h : ltr i = ltr j) : i = j := by
  have e : (ltr i).cps.toList = (ltr j).cps.toList := by rw [h]
  unfold ltr at e
  simp at e
  exact e
theorem Im.prow {H : Hp} {n : Nat} {v : V} {r : Str × List Key} (h : Im H n v (dPR r)) : ∃ a b, v = .ref a ∧ H a = some (.tup [.str r.1, .ref b]) ∧ H b = some (.tup (r.2.map kV)) := by
  cases h with
  | tup ra la aa =>
    cases aa with
    | cons a1 a2 =>
      cases a1
      cases a2 with
      | cons a3 a4 =>
        cases a4
        cases a3 with
        | tup rb lb ab =>
          have := ab.syms
          subst this
          exact ⟨_, _, rfl, ra, rb⟩
def PsOk (ps : List (Str × List Key)) : Prop := ps.length ≤ 6 ∧ ∀ r ∈ ps, IsNm r.1 ∧ 1 ≤ r.2.length ∧ r.2.length ≤ 4 ∧ ∀ k ∈ r.2, SymOk k
def spNames : Sp := fun vs H Q _ => ∃ (L : Addr) (xs : List V) (ps : List (Str × List Key)), vs = [.ref L] ∧ H L = some (.lst xs) ∧ ImAll H 2 xs (ps.map dPR) ∧ PsOk ps ∧
  ∀ D H', Kp [] H H' → H D = none → H' D = some (.dK (nmKv (namesP ps))) → Q (.ref D) H'
def spRenamed : Sp := fun vs H Q _ => ∃ (a D : Addr) (ks : List Key) (ns : List Str), vs = [.ref a, .ref D] ∧ RwAt H a (ks.map kV) ∧ ks.length ≤ 1000 ∧ H D = some (.dK (nmKv ns)) ∧
  ∀ l H', Kp [] H H' → H' l = some (.tup ((ks.map (ren ns)).map kV)) → Q (.ref l) H'
def renR (ns : List Str) (r : Str × List Key) : Str × List Key := (r.1, r.2.map (ren ns))
theorem ren_ok {ns : List Str} {k : Key} (h : SymOk k) : SymOk (ren ns k) := by
  cases k with
  | inl i => exact h
  | inr s =>
    rw [ren_inr]
    split
    · show (ltr _).length ≤ 1000000; unfold ltr; show 1 ≤ 1000000; decide
    · exact h
def spRenRows : Sp := fun vs H Q _ => ∃ (L D : Addr) (xs : List V) (ps : List (Str × List Key)) (ns : List Str), vs = [.ref L, .ref D] ∧ H L = some (.lst xs) ∧ ImAll H 2 xs (ps.map dPR) ∧ PsOk ps ∧ H D = some (.dK (nmKv ns)) ∧
  ∀ v H', Kp [] H H' → Im H' 3 v (.tuple ((ps.map (renR ns)).map dPR)) → Q v H'
/-- a right group -/
def GrpD (d : PyData) (ns : List Str) (g : List Key) : Prop := RowD d (g.map keyD) ∧ g.length ≤ 3 ∧ (∀ k ∈ g, SymOk k) ∧ ∀ s, Sum.inr s ∈ g → s ∈ ns
def spIsGroup : Sp := fun vs H Q _ => ∃ (S : Addr → Prop) (q : Bool) (n : Nat) (x : V) (d : PyData) (D : Addr) (ns : List Str) (g : List Key), vs = [x, .ref D] ∧ Dt S q H n x d ∧ H D = some (.dK (nmKv ns)) ∧ GrpD d ns g ∧ ∀ H', Kp [] H H' → Q (.bl true) H'
/-- a right dict of powers -/
def pwKv (pw : List (Str × Int)) : List (Key × V) := pw.map fun p => (.inr p.1, .int p.2)
def PwOk (ns : List Str) (pw : List (Str × Int)) : Prop := (pw.map (·.1)).Nodup ∧ ∀ p ∈ pw, p.1 ∈ ns ∧ 1 ≤ p.2 ∧ p.2 ≤ 100
def spIsPowers : Sp := fun vs H Q _ => ∃ (D W : Addr) (ns : List Str) (pw : List (Str × Int)), vs = [.ref W, .ref D] ∧ H D = some (.dK (nmKv ns)) ∧ H W = some (.dK (pwKv pw)) ∧ PwOk ns pw ∧ ∀ H', Kp [] H H' → Q (.bl true) H'
section
variable {P : Program} {w : World} {K : PySem.W.Frag} {mg : Str → Option Value} {base : Heap}
theorem ok_names {tk : Tok} (B : Bi mg) (L : mg "LETTERS_patterns" = some (.str abc tk)) (D : Dfn K mg "names_in_order" s_names_in_order ["rows"]) :
    Has P w K mg base CX0 "names_in_order" ["rows"] 2 spNames := by
  refine D.has sc_names_in_order (fun vs H Q E h => ?_) (fun f cdv A outer s H vs Q E hr h => ?_)
  · obtain ⟨L, xs, ps, rfl, _⟩ := h; rfl
  · obtain ⟨L', xs, ps, rfl, hL, ix, ok, k⟩ := h
    have hu := hu_of hr
    refine ⟨_, (pss_cons (ps_set (i := 1) sc_names_in_order.nd rfl (by first | exact Or.inl rfl | exact Or.inr rfl) pe_dnewK)
  (pss_cons (ps_for PassesOwn.never rfl (pi_list (pv 0)) (pg_tup rfl (pgs_cons (pg_name (i := 2) sc_names_in_order.nd rfl (by first | exact Or.inl rfl | exact Or.inr rfl)) (pgs_cons (pg_name (i := 3) sc_names_in_order.nd rfl (by first | exact Or.inl rfl | exact Or.inr rfl)) pgs_nil)))
  (pss_one (ps_for PassesOwn.never rfl (pi_tup (pv 3)) (pg_name (i := 4) sc_names_in_order.nd rfl (by first | exact Or.inl rfl | exact Or.inr rfl))
  (pss_one (ps_if (PW.pt (pw_and (pt_val (pe_callB call_isi (by rfl) B.isinstance (by decide +kernel) (pa_cons (pv 4) (pa_cons (pe_bltn (v := .ty "str") (by rfl) B.str (by decide +kernel) rfl) pa_nil)))) (pw_and1 (pt_cmp (pc_dnotin hu (pv 4) (pv 1)) rfl))))
  (pss_one (ps_dput hu (pv 1) (pv 4) (pe_ix ix_str (pe_glob (v := .str abc) rfl L ⟨_, rfl⟩) (pe_callB call_lenD (by rfl) B.len PySem.boot_len (pa_cons (pv 1) pa_nil)) (fun _ _ => rfl)) rfl))
  pss_nil)))))
  (pss_one (ps_ret (pv 1))))), ?_⟩
    have el : xs.length = ps.length := by rw [ix.len, List.length_map]
    intro D hD
    have k0 : Kp [] H (upd H D (.dK [])) := Kp.new hD
    refine ⟨_, rfl, L', rfl, ⟨_, SqL.of (k0.at_ _ _ hL (fun z => nomatch z))⟩, ?_⟩
    refine for_it (walk_list (xs := xs)) (fun i σ H' => (∃ o2 o3 o4, σ = [some (.ref L'), some (.ref D), o2, o3, o4]) ∧ Kp [] H H' ∧ H' D = some (.dK (nmKv ((ps.take i).foldl addR [])))) ⟨⟨_, _, _, rfl⟩, k0, upd_same⟩ (fun i σ H' _ h => SqL.of (h.2.1.at_ _ _ hL (fun z => nomatch z))) ?_ ?_
    · rintro i u σ H2 H3 hi ⟨⟨o2, o3, o4, rfl⟩, k2, h2⟩ ⟨rfl, hu1⟩
      obtain ⟨du, hdu, iu⟩ := ix.getV hu1
      rw [List.getElem?_map] at hdu
      cases er : ps[i]? with
      | none => rw [er] at hdu; cases hdu
      | some r =>
        rw [er] at hdu
        cases hdu
        obtain ⟨a, b, rfl, ha, hb⟩ := (Im.kp k2 iu).prow
        have okr := ok.2 r (List.mem_of_getElem? er)
        have ln : ((ps.take i).foldl addR []).length ≤ 4 * i := by
          have := foldR_len (ps.take i) [] fun x hx => (ok.2 x (List.mem_of_mem_take hx)).2.2.1
          rw [List.length_take] at this
          have := Nat.min_le_left i ps.length
          simp only [List.length_nil] at *
          omega
        have i6 : i < 6 := by have := ok.1; omega
        rw [take_snoc er, List.foldl_append]
        generalize hns : (ps.take i).foldl addR [] = ns at h2 ln
        refine ⟨a, _, rfl, SqT.of ha, rfl, _, _, rfl, _, _, rfl, rfl, ?_⟩
        refine ⟨_, rfl, b, rfl, ⟨_, .inl (.inl hb)⟩, ?_⟩
        refine for_it (walk_tup (xs := r.2.map kV)) (fun j σ H' => (∃ o4, σ = [some (.ref L'), some (.ref D), some (.str r.1), some (.ref b), o4]) ∧ Kp [] H H' ∧ H' D = some (.dK (nmKv ((r.2.take j).foldl addN ns))) ∧ H' b = some (.tup (r.2.map kV))) ⟨⟨_, rfl⟩, k2, h2, hb⟩ (fun j σ H' _ h => .inl (.inl h.2.2.2)) ?_ ?_
        · rintro j u σ H4 H5 hj ⟨⟨o4, rfl⟩, k4, h4, hb4⟩ ⟨rfl, hu2⟩
          rw [List.getElem?_map] at hu2
          cases ey : r.2[j]? with
          | none => rw [ey] at hu2; cases hu2
          | some y =>
            rw [ey] at hu2
            cases hu2
            rw [take_snoc ey, List.foldl_append]
            have l5 : ((r.2.take j).foldl addN ns).length ≤ 4 * i + j := by
              have := foldN_len (r.2.take j) ns
              rw [List.length_take] at this
              have := Nat.min_le_left j r.2.length
              omega
            have j4 : j < 4 := by
              have := (List.getElem?_eq_some_iff.mp ey).1
              omega
            generalize hms : (r.2.take j).foldl addN ns = ms at h4 l5
            refine ⟨_, rfl, _, _, _, _, _, rfl, .ty _, kV_ty, kit_ty (kb_key y), _, rfl, ?_⟩
            cases y with
            | inl iy => exact iteF (iteF ⟨⟨_, rfl⟩, k4, h4, hb4⟩)
            | inr sy =>
              refine iteT ⟨_, rfl, _, rfl, D, _, rfl, .inl ⟨_, .inr sy, .inl h4, rfl, rfl⟩, _, rfl, ?_⟩
              rw [valV_nm]
              by_cases hm : sy ∈ ms
              · rw [if_pos hm]
                refine iteF ⟨⟨_, rfl⟩, k4, ?_, hb4⟩
                show H5 D = some (.dK (nmKv (addN ms (.inr sy))))
                rw [addN_inr, if_pos hm]; exact h4
              · rw [if_neg hm]
                refine iteT ?_
                refine ⟨_, rfl, D, _, rfl, h4, abc, _, _, rfl, rfl, by rw [abc_len]; decide, abc_ix (by omega) (by rw [nmKv_len]; omega), _, rfl, _, rfl, D, _, rfl, .inl ⟨_, .inr sy, h4, rfl, by rw [nmKv_len]; exact small1000 (by omega), rfl⟩, ?_⟩
                rw [putK_new _ (by rw [valV_nm, if_neg hm])]
                refine ⟨⟨_, rfl⟩, k4.late hD, ?_, by rw [upd_ne (fun z => by rw [z, h4] at hb4; cases hb4)]; exact hb4⟩
                rw [upd_same]
                show some (HO.dK _) = some (.dK (nmKv (addN ms (.inr sy))))
                rw [addN_inr, if_neg hm, nmKv_snoc, nmKv_len, Int.toNat_natCast]; rfl
        · rintro σ H4 ⟨⟨o4, rfl⟩, k4, h4, hb4⟩
          rw [List.length_map, List.take_length] at h4
          exact ⟨⟨_, _, _, rfl⟩, k4, h4⟩
    · rintro σ H2 ⟨⟨o2, o3, o4, rfl⟩, k2, h2⟩
      rw [el, List.take_length] at h2
      exact ⟨_, rfl, k D H2 k2 hD h2⟩
end
end Fm

namespace Fm
open PySem PySem.Spec PyProof.Rows L2
section
variable {P : Program} {w : World} {K : PySem.W.Frag} {mg : Str → Option Value} {base : Heap}
theorem ok_renamed (B : Bi mg) (D : Dfn K mg "renamed" s_renamed ["symbols", "names"]) :
    Has P w K mg base CX0 "renamed" ["symbols", "names"] 2 spRenamed := by
  refine D.has sc_renamed (fun vs H Q E h => ?_) (fun f cdv A outer s H vs Q E hr h => ?_)
  · obtain ⟨a, D, ks, ns, rfl, _⟩ := h; rfl
  · obtain ⟨a, D', ks, ns, rfl, ra, l1, hD, k⟩ := h
    have hu := hu_of hr
    refine ⟨_, (pss_one (ps_ret (pe_callTy call_tuple_of (by rfl) B.tuple (by decide +kernel) (pa_cons (pe_lc (own := [("symbol", 2)]) (g := gName 2) (by rfl) sc_renamed.nd (pi_or (pi_list (pv 0)) (pi_tup (pv 0))) (blkOk_by (own := [("symbol", 2)]) (N := N_renamed) (sc := defScope s_renamed) (by decide +kernel)) (fun _ _ _ _ _ => (pg_name (i := 2) sc_renamed.nd rfl (by first | exact Or.inl rfl | exact Or.inr rfl))) (fun _ _ _ _ _ => pts_nil) (fun _ _ _ _ _ => (pe_dget2 hu (pv 1) (pv 2) (pv 2) ⟨rfl, rfl, rfl, rfl⟩))) pa_nil)))), ?_⟩
    rcases ra with r | r
    all_goals
      first
        | refine .inl ⟨_, rfl, a, rfl, ⟨_, .inl r⟩, fun L hL => lc_it (walk_list (xs := ks.map kV)) (fun j H' => H' L = some (.lst (((ks.take j).map (ren ns)).map kV)) ∧ Kp [] H H') ⟨upd_same, Kp.new hL⟩ (fun j H' _ h => .inl (h.2.rd (fun z => nomatch z) r)) (fun j u H2 H3 hj h2 hy => ?_) (fun H2 h2 => ?_)⟩
        | refine .inr ⟨_, rfl, a, rfl, ⟨_, .inl (.inl r)⟩, fun L hL => lc_it (walk_tup (xs := ks.map kV)) (fun j H' => H' L = some (.lst (((ks.take j).map (ren ns)).map kV)) ∧ Kp [] H H') ⟨upd_same, Kp.new hL⟩ (fun j H' _ h => .inl (.inl (h.2.tp _ _ r))) (fun j u H2 H3 hj h2 hy => ?_) (fun H2 h2 => ?_)⟩
      · obtain ⟨h2, k2⟩ := h2
        obtain ⟨rfl, hu1⟩ := hy
        rw [List.getElem?_map] at hu1
        cases ey : ks[j]? with
        | none => rw [ey] at hu1; cases hu1
        | some y =>
          rw [ey] at hu1
          cases hu1
          have hD2 := k2.at_ _ _ hD (fun z => nomatch z)
          refine ⟨rfl, _, rfl, D', rfl, .inl ⟨_, .inl hD2⟩, _, rfl, _, rfl, _, .inl ⟨_, y, .inl hD2, rfl, rfl⟩, ?_⟩
          rw [ren_get]
          refine ⟨_, h2, ?_, ?_, k2.late hL⟩
          · rw [List.length_map, List.length_map, List.length_take]
            have := Nat.min_le_left j ks.length
            rw [List.length_map] at hj
            exact small1000 (by omega)
          · rw [upd_same, take_snoc ey, List.map_append, List.map_append]; rfl
      · obtain ⟨h2, k2⟩ := h2
        rw [List.length_map, List.take_length] at h2
        exact ⟨L, _, rfl, .inl ⟨SqL.of h2, fun l hl => k l _ (k2.snoc hl) upd_same⟩⟩
theorem ok_renrows (B : Bi mg) (D : Dfn K mg "renamed_rows" s_renamed_rows ["rows", "names"]) (G_renamed : Has P w K mg base CX0 "renamed" ["symbols", "names"] 2 spRenamed) :
    Has P w K mg base CX0 "renamed_rows" ["rows", "names"] 3 spRenRows := by
  refine D.has sc_renamed_rows (fun vs H Q E h => ?_) (fun f cdv A outer s H vs Q E hr h => ?_)
  · obtain ⟨L, D, xs, ps, ns, rfl, _⟩ := h; rfl
  · obtain ⟨L', D', xs, ps, ns, rfl, hL', ix, ok, hD, k⟩ := h
    have hu := hu_of hr
    refine ⟨_, (pss_one (ps_ret (pe_callTy call_tuple_of (by rfl) B.tuple (by decide +kernel) (pa_cons (pe_lc (own := [("table", 2), ("symbols", 3)]) (g := gTup K 2 (gCons (gName 2) (gCons (gName 3) gNil))) (by rfl) sc_renamed_rows.nd (pi_list (pv 0)) (blkOk_by (own := [("table", 2), ("symbols", 3)]) (N := N_renamed_rows) (sc := defScope s_renamed_rows) (by decide +kernel)) (fun _ _ _ _ _ => (pg_tup rfl (pgs_cons (pg_name (i := 2) sc_renamed_rows.nd rfl (by first | exact Or.inl rfl | exact Or.inr rfl)) (pgs_cons (pg_name (i := 3) sc_renamed_rows.nd rfl (by first | exact Or.inl rfl | exact Or.inr rfl)) pgs_nil)))) (fun _ _ _ _ _ => pts_nil) (fun _ _ _ _ _ => (pe_tup (pa_cons (pv 2) (pa_cons (pe_has G_renamed (hr.mono (by omega)) (pa_cons (pv 3) (pa_cons (pv 1) pa_nil))) pa_nil))))) pa_nil)))), ?_⟩
    have el : xs.length = ps.length := by rw [ix.len, List.length_map]
    have ok1 := ok.1
    refine ⟨_, rfl, L', rfl, ⟨_, SqL.of hL'⟩, fun L hL => lc_it (walk_list (xs := xs)) (fun j H' => ∃ zs, H' L = some (.lst zs) ∧ ImAll H' 2 zs (((ps.take j).map (renR ns)).map dPR) ∧ zs.length = j ∧ Kp [] H H') ⟨[], upd_same, .nil, rfl, Kp.new hL⟩ (fun j H' _ h => let ⟨_, _, _, _, k2⟩ := h; SqL.of (k2.at_ _ _ hL' (fun z => nomatch z))) (fun j u H2 H3 hj h2 hy => ?_) (fun H2 h2 => ?_)⟩
    · obtain ⟨zs, h2, i2, lz, k2⟩ := h2
      obtain ⟨rfl, hu1⟩ := hy
      obtain ⟨du, hdu, iu⟩ := ix.getV hu1
      rw [List.getElem?_map] at hdu
      cases er : ps[j]? with
      | none => rw [er] at hdu; cases hdu
      | some r =>
        rw [er] at hdu
        cases hdu
        obtain ⟨a, b, rfl, ha, hb⟩ := (Im.kp k2 iu).prow
        have okr := ok.2 r (List.mem_of_getElem? er)
        refine ⟨a, _, rfl, SqT.of ha, rfl, _, _, rfl, _, _, rfl, rfl, ?_⟩
        refine ⟨rfl, _, rfl, _, rfl, _, rfl, b, D', r.2, ns, rfl, .inr hb, by omega, k2.at_ _ _ hD (fun z => nomatch z), fun l H4 k4 h4 => ?_⟩
        refine ⟨by show 2 ≤ sizeLine; decide, fun t ht => ?_⟩
        have k5 := k4.snoc (o := .tup [.str r.1, .ref l]) ht
        have hz5 := k5.at_ _ _ h2 (fun z => nomatch z)
        refine ⟨zs, hz5, by rw [lz]; exact small1000 (by omega), zs ++ [.ref t], upd_same, ?_, by simp [lz], (k2.trans k5).late hL⟩
        rw [take_snoc er, List.map_append, List.map_append]
        have kL : Kp [L] (upd H4 t (.tup [.str r.1, .ref l])) (upd (upd H4 t (.tup [.str r.1, .ref l])) L (.lst (zs ++ [.ref t]))) := Kp.updL hz5 (by simp)
        have hl7 := kL.tp _ _ ((Kp.new (ms := []) ht).tp _ _ h4)
        have ht7 := kL.tp _ _ (upd_same (H := H4) (a := t))
        refine (ImAll.kp (k5.zero.trans kL) i2).append (.cons ?_ .nil)
        refine .tup ht7 ⟨by show 2 ≤ 1000000; decide, ⟨_, ht7⟩⟩ (.cons (.str _ (by have := okr.1.2.1; omega)) (.cons (.tup hl7 ⟨by rw [List.length_map, List.length_map]; omega, ⟨_, hl7⟩⟩ (dt_syms fun y hy => ?_)) .nil))
        obtain ⟨y0, hy0, rfl⟩ := List.mem_map.mp hy
        exact ren_ok (okr.2.2.2 y0 hy0)
    · obtain ⟨zs, h2, i2, lz, k2⟩ := h2
      rw [el, List.take_length] at i2
      refine ⟨L, zs, rfl, .inl ⟨SqL.of h2, fun l hl => k _ _ (k2.snoc hl) (.tup upd_same ⟨by omega, ⟨_, upd_same⟩⟩ (ImAll.kp (ms := []) (Kp.new hl) i2))⟩⟩
theorem ok_is_group (B : Bi mg) (D : Dfn K mg "is_group" s_is_group ["group", "names"]) (G_is_row : Has P w K mg base CX0 "is_row" ["thing"] 1 spIsRow) (G_is_value : Has P w K mg base CX0 "is_value" ["thing"] 2 spIsVal) :
    Has P w K mg base CX0 "is_group" ["group", "names"] 3 spIsGroup := by
  refine D.has sc_is_group (fun vs H Q E h => ?_) (fun f cdv A outer s H vs Q E hr h => ?_)
  · obtain ⟨S, q, n, x, d, D, ns, g, rfl, _⟩ := h; rfl
  · obtain ⟨S, q, n, x, d, D', ns, g, rfl, hx, hD, ⟨rd, l3, okg, ing⟩, k⟩ := h
    have hu := hu_of hr
    refine ⟨_, (pss_cons (ps_if (PW.pt (pw_or (pt_not (pt_val (pe_has G_is_row (hr.mono (by omega)) (pa_cons (pv 0) pa_nil)))) (pw_or1 (pt_cmpR op_gt (pe_callB call_len (by rfl) B.len PySem.boot_len (pa_cons (pv 0) pa_nil)) pe_int (nomark _)))))
  (pss_one (ps_ret pe_bl))
  pss_nil)
  (pss_cons (ps_for PassesOwn.never rfl (pi_or (pi_list (pv 0)) (pi_tup (pv 0))) (pg_name (i := 2) sc_is_group.nd rfl (by first | exact Or.inl rfl | exact Or.inr rfl))
  (pss_one (ps_if (pt_val (pe_callB call_isi (by rfl) B.isinstance (by decide +kernel) (pa_cons (pv 2) (pa_cons (pe_bltn (v := .ty "str") (by rfl) B.str (by decide +kernel) rfl) pa_nil))))
  (pss_one (ps_if (pt_cmp (pc_dnotin hu (pv 2) (pv 1)) rfl)
  (pss_one (ps_ret pe_bl))
  pss_nil))
  (pss_one (ps_if (pt_not (pt_val (pe_has G_is_value (hr.mono (by omega)) (pa_cons (pv 2) pa_nil))))
  (pss_one (ps_ret pe_bl))
  pss_nil)))))
  (pss_one (ps_ret pe_bl)))), ?_⟩
    have hd : isRowD d = true := by rcases rd with rfl | rfl <;> rfl
    refine ⟨_, rfl, S, q, n, x, d, rfl, hx, fun H1 k1 => ⟨_, rfl, ?_⟩⟩
    rw [hd]
    obtain ⟨ds, m, p, xs, rfl, rfl, rx, lx, _, ax, hds⟩ := (hx.keep k1).row hd
    have e' : ds = g.map keyD := by
      rcases hds with ⟨rfl, _⟩ | ⟨rfl, _⟩ <;> rcases rd with e | e <;> cases e <;> rfl
    subst e'
    have := ax.syms
    subst this
    refine iteF ⟨_, rfl, _, _, rfl, rx.len, _, _, rfl, rfl, _, rfl, ?_⟩
    rw [List.length_map, decide_eq_false (show ¬ ((3 : Int) < (g.length : Nat)) by omega)]
    refine iteF ?_
    have hD1 := k1.at_ _ _ hD (fun z => nomatch z)
    rcases rx with r | r
    all_goals
      first
        | refine .inl ⟨_, rfl, p, rfl, ⟨_, .inl r⟩, for_it (walk_list (xs := g.map kV)) (fun i σ H' => (∃ o, σ = [some (.ref p), some (.ref D'), o]) ∧ H' = H1) ⟨⟨_, rfl⟩, rfl⟩ (fun i σ H' _ h => .inl (h.2 ▸ r)) ?_ ?_⟩
        | refine .inr ⟨_, rfl, p, rfl, ⟨_, .inl (.inl r)⟩, for_it (walk_tup (xs := g.map kV)) (fun i σ H' => (∃ o, σ = [some (.ref p), some (.ref D'), o]) ∧ H' = H1) ⟨⟨_, rfl⟩, rfl⟩ (fun i σ H' _ h => .inl (.inl (h.2 ▸ r))) ?_ ?_⟩
      · rintro i u σ H2 H3 hi ⟨⟨o, rfl⟩, rfl⟩ ⟨rfl, hu1⟩
        rw [List.getElem?_map] at hu1
        cases ey : g[i]? with
        | none => rw [ey] at hu1; cases hu1
        | some y =>
          rw [ey] at hu1
          cases hu1
          have my := List.mem_of_getElem? ey
          refine ⟨_, rfl, _, _, _, _, _, rfl, .ty _, kV_ty, kit_ty (kb_key y), _, rfl, ?_⟩
          cases y with
          | inr sy =>
            refine iteT ⟨_, rfl, _, rfl, D', _, rfl, .inl ⟨_, .inr sy, .inl hD1, rfl, rfl⟩, _, rfl, ?_⟩
            rw [valV_nm, if_pos (ing sy my)]
            exact iteF ⟨⟨_, rfl⟩, rfl⟩
          | inl iy =>
            refine iteF ⟨_, rfl, (fun _ => True), true, 0, .int iy, .int iy, rfl, .int _, _, rfl, ?_⟩
            rw [bP_t ⟨_, rfl, okg _ my⟩]
            exact iteF ⟨⟨_, rfl⟩, rfl⟩
      · rintro σ H2 ⟨⟨o, rfl⟩, rfl⟩
        exact k _ k1
end
end Fm

namespace Fm
open PySem PySem.Spec PyProof.Rows L2
/-! ### sorted over pairs of a string and a number: a rule -/
def dPow (p : Str × Int) : PyData := .tuple [.str p.1, .int p.2]
def srt (ps : List (Str × Int)) : List (Str × Int) := ps.mergeSort (PySem.W.dataLe false dPow)
theorem srt_len (ps : List (Str × Int)) : (srt ps).length = ps.length := List.length_mergeSort ps
theorem srt_mem {ps : List (Str × Int)} {p : Str × Int} : p ∈ srt ps ↔ p ∈ ps := List.mem_mergeSort
def PowV (H : Hp) (x : V) (p : Str × Int) : Prop := ∃ t, x = .ref t ∧ H t = some (.tup [.str p.1, .int p.2])
inductive PowAll (H : Hp) : List V → List (Str × Int) → Prop
  | nil : PowAll H [] []
  | cons {x : V} {xs : List V} {p : Str × Int} {ps : List (Str × Int)} : PowV H x p → PowAll H xs ps → PowAll H (x :: xs) (p :: ps)
theorem PowAll.len {H : Hp} : ∀ {xs : List V} {ps : List (Str × Int)}, PowAll H xs ps → xs.length = ps.length
  | _, _, .nil => rfl
  | _, _, .cons _ b => congrArg (· + 1) b.len
theorem PowAll.snoc {H : Hp} {x : V} {p : Str × Int} (h : PowV H x p) : ∀ {xs : List V} {ps : List (Str × Int)}, PowAll H xs ps → PowAll H (xs ++ [x]) (ps ++ [p])
  | _, _, .nil => .cons h .nil
  | _, _, .cons a b => .cons a (b.snoc h)
def rSortedSI (K : PySem.W.Frag) : List V → Hp → VK → Prop := fun vs H Q => ∃ (a : Addr) (xs : List V) (ps : List (Str × Int)), vs = [V.ref a] ∧ SqL K H a xs ∧ PowAll H xs ps ∧ ∀ d ys, H d = none → PowAll H ys (srt ps) → Q (.ref d) (upd H d (.lst ys))
theorem PowAll.each {H : Hp} : ∀ {xs : List V} {ps : List (Str × Int)} {its : List Value}, PowAll H xs ps → Vals xs its → PySem.W.EachIs (fun v p => PowV H (backV v) p ∧ ∃ t, v = Value.ref t) its ps
  | _, _, _, .nil, r => by cases r; exact .nil
  | _, _, _, .cons a b, r => by
    cases r with
    | cons r1 r2 =>
      obtain ⟨t, rfl, ht⟩ := a
      cases r1
      exact .cons ⟨⟨t, rfl, ht⟩, t, rfl⟩ (PowAll.each b r2)
theorem each_pow {H : Hp} : ∀ {its : List Value} {ps : List (Str × Int)}, PySem.W.EachIs (fun v p => PowV H (backV v) p ∧ ∃ t, v = Value.ref t) its ps → PowAll H (its.map backV) ps ∧ ∀ u ∈ its, ∃ a, u = Value.ref a
  | _, _, .nil => ⟨.nil, fun u hu => nomatch hu⟩
  | _, _, .cons a b => ⟨.cons a.1 (each_pow b).1, fun u hu => by
    rcases List.mem_cons.mp hu with rfl | hu
    · exact a.2
    · exact (each_pow b).2 u hu⟩
section
variable {X : Cx}
theorem cr_sortedSI (hu : X.A.units + 64 < cLine) : CallR X (.builtin "sorted") (rSortedSI X.K) := by
  intro pins s σ H vs us Q I r h
  obtain ⟨a, xs, ps, rfl, hs, hx, q⟩ := h
  obtain ⟨its, rv, hl, hz⟩ := I.list hs
  obtain ⟨u, rfl, ru⟩ := vals1 r
  obtain rfl : u = Value.ref a := ru
  have e1 := hx.each rv
  have lp : its.length = ps.length := by rw [← rv.length, hx.len]
  refine PySem.W.sorted_data (enc := dPow) (bs := ps) (R := fun v p => PowV H (backV v) p ∧ ∃ t, v = Value.ref t) hl.isList e1 (e1.mono fun v p hp => ?_) (PySem.W.AllAlike.of fun b b' => by simp [dPow, PySem.W.alike, PySem.W.alikeAll]) (PySem.W.Sortable.tuples fun b => ⟨_, _, rfl⟩) (by rw [← lp, ← rv.length]; exact hz) (fun b _ => ?_) fun out lo eo => ?_
  · obtain ⟨⟨t, e, ht⟩, t', rfl⟩ := hp
    cases e
    obtain ⟨_, its2, r2, o, ho, hc, n, hd⟩ := I.hok _ _ ht
    obtain ⟨u1, u2, rfl, ri, rj⟩ := vals2 r2
    obtain ⟨t1, rfl⟩ := ri
    obtain ⟨t2, rfl⟩ := rj
    exact ⟨_, .tuple ho hc hd (.cons (.str _ _) (.cons (.int _ _) .nil))⟩
  · have : (dPow b).depth ≤ 2 := by simp [dPow, PyData.depth, PyData.depthAll]
    omega
  · obtain ⟨h2, h3⟩ := each_pow eo
    obtain ⟨e, he⟩ := sortedAll_at s.heap its out.toArray
    refine ⟨.ref (s.heap.objs.size + 1), upd H (s.heap.objs.size + 1) (.lst (out.map backV)), I.laid (t' := s.toks) (fun b o hb => sortedAll_old hb) (Nat.le_succ _) ⟨?_, out, e, vals_back h3, he⟩, rfl, q _ _ (I.hok.fresh (Nat.le_succ _)) h2⟩
    rw [List.length_map, lo, ← lp, ← rv.length]; exact hz
end
end Fm

namespace Fm
open PySem PySem.Spec PyProof.Rows L2
structure BiP (mg : Str → Option Value) : Prop extends Bi mg where
  sorted : mg "sorted" = none
/-! ### patterns as they are kept -/
structure Pat where
  rows : List (Str × List Key)
  grp : List Key
  pws : List (Str × Int)
deriving DecidableEq
/-- the pattern that comes of right rows, group and powers -/
def nmPw (ns : List Str) (p : Str × Int) : Str × Int := (ltr (ns.idxOf p.1), p.2)
def canP (ps : List (Str × List Key)) (g : List Key) (pw : List (Str × Int)) : Pat := ⟨ps.map (renR (namesP ps)), g.map (ren (namesP ps)), srt (pw.map (nmPw (namesP ps)))⟩
def PatAt (C : Addr) (H : Hp) (p : Addr) (T : Pat) : Prop := ∃ dx v1 v2 v3, H p = some (.ins C dx [("rows", v1), ("group", v2), ("powers", v3)]) ∧ Im H 3 v1 (.tuple (T.rows.map dPR)) ∧ Im H 1 v2 (dSyms T.grp) ∧ Im H 2 v3 (.tuple (T.pws.map dPow))
theorem PatAt.kp {C : Addr} {H H' : Hp} {p : Addr} {T : Pat} {ms : List Addr} (h : PatAt C H p T) (k : Kp ms H H') (hp : p ∉ ms) : PatAt C H' p T := by
  obtain ⟨dx, v1, v2, v3, h1, i1, i2, i3⟩ := h
  exact ⟨dx, v1, v2, v3, k.at_ _ _ h1 hp, Im.kp k i1, Im.kp k i2, Im.kp k i3⟩
structure PatCls (K : PySem.W.Frag) (mg : Str → Option Value) (C : Addr) : Prop where
  cl : Cls K C
  nR : NoAttr K C "rows"
  nG : NoAttr K C "group"
  nP : NoAttr K C "powers"
  mgC : mg "Pattern" = some (.ref C)
def spPatI (C : Addr) : Sp := fun vs H Q _ => ∃ (p dx W : Addr) (S S2 : Addr → Prop) (q q2 : Bool) (n n2 : Nat) (x y : V) (d dg : PyData) (es : List PyData) (ps : List (Str × List Key)) (g : List Key) (pw : List (Str × Int)), vs = [.ref p, x, y, .ref W] ∧ H p = some (.ins C dx []) ∧
  Dt S q H n x d ∧ RowD d es ∧ es.length ≤ 6 ∧ PRowsD es ps ∧ Dt S2 q2 H n2 y dg ∧ GrpD dg (namesP ps) g ∧ H W = some (.dK (pwKv pw)) ∧ PwOk (namesP ps) pw ∧ ∀ H', Kp [p] H H' → PatAt C H' p (canP ps g pw) → Q .non H'
theorem pwKv_keys (pw : List (Str × Int)) : (pwKv pw).map (·.1) = (pw.map (·.1)).map Sum.inr := by
  unfold pwKv; rw [List.map_map, List.map_map]; rfl
theorem inr_nd' {ks : List Str} (h : ks.Nodup) : (ks.map (Sum.inr : Str → Key)).Nodup := List.pairwise_map.mpr (List.Pairwise.imp (fun hab e => hab (Sum.inr.inj e)) h)
theorem pwKv_at {pw : List (Str × Int)} (nd : (pw.map (·.1)).Nodup) {i : Nat} {kk : Key} {vv : V} (h : (pwKv pw)[i]? = some (kk, vv)) : ∃ p, pw[i]? = some p ∧ kk = .inr p.1 ∧ vv = .int p.2 ∧ valV (pwKv pw) (.inr p.1) = some (.int p.2) := by
  have h0 := h
  unfold pwKv at h
  rw [List.getElem?_map] at h
  cases e : pw[i]? with
  | none => rw [e] at h; cases h
  | some p =>
    rw [e] at h
    cases h
    exact ⟨p, rfl, rfl, rfl, valV_at (by rw [pwKv_keys]; exact inr_nd' nd) h0⟩
theorem Kp.unlock {H H2 : Hp} {p : Addr} {kvs : List (Key × V)} {od : Obj} (hp : H p = some (.dK kvs)) (k2 : Kp [] (upd H p (.frz od (.dK kvs))) H2) : Kp [] H (upd H2 p (.dK kvs)) :=
  ⟨fun a o e _ => by
    by_cases z : a = p
    · rw [z, upd_same]; rw [z, hp] at e; exact e
    · rw [upd_ne z]; exact k2.at_ a o (by rw [upd_ne z]; exact e) (fun z => nomatch z), fun a xs e => by
    by_cases z : a = p
    · rw [z, hp] at e; cases e
    · rw [upd_ne z]; exact k2.tp a xs (by rw [upd_ne z]; exact e)⟩
theorem RwAt.kp {ms : List Addr} {H H' : Hp} {a : Addr} {xs : List V} (h : RwAt H a xs) (k : Kp ms H H') (hm : a ∉ ms) : RwAt H' a xs := h.elim (fun h => .inl (k.rd hm h)) fun h => .inr (k.tp _ _ h)
theorem PowAll.kp {ms : List Addr} {H H' : Hp} (k : Kp ms H H') : ∀ {xs : List V} {ps : List (Str × Int)}, PowAll H xs ps → PowAll H' xs ps
  | _, _, .nil => .nil
  | _, _, .cons ⟨t, e, h⟩ b => .cons ⟨t, e, k.tp _ _ h⟩ (b.kp k)
theorem PowAll.im {H : Hp} {n : Nat} : ∀ {xs : List V} {ps : List (Str × Int)}, PowAll H xs ps → (∀ p ∈ ps, p.1.length ≤ 1000000) → ImAll H (n + 1) xs (ps.map dPow)
  | _, _, .nil, _ => .nil
  | _, _, .cons ⟨t, e, h⟩ b, hl => by
    subst e
    exact .cons (.tup h ⟨by show 2 ≤ 1000000; decide, ⟨_, h⟩⟩ (.cons (.str _ (hl _ List.mem_cons_self)) (.cons (.int _) .nil))) (b.im fun x hx => hl x (List.mem_cons_of_mem _ hx))
theorem namesP_len {ps : List (Str × List Key)} (h : PsOk ps) : (namesP ps).length ≤ 24 := by
  have := foldR_len ps [] fun r hr => (h.2 r hr).2.2.1
  have := h.1
  simp only [List.length_nil] at *
  unfold namesP
  omega
theorem PwOk.len {ns : List Str} {pw : List (Str × Int)} (h : PwOk ns pw) : pw.length ≤ ns.length := by
  have := pigeon (pw.map (·.1)) ns h.1 fun x hx => by
    obtain ⟨p, hp, rfl⟩ := List.mem_map.mp hx
    exact (h.2 p hp).1
  rwa [List.length_map] at this
theorem GrpD.row {S : Addr → Prop} {q : Bool} {H : Hp} {n : Nat} {v : V} {d : PyData} {ns : List Str} {g : List Key} (h : GrpD d ns g) (hv : Dt S q H n v d) : ∃ a, v = .ref a ∧ RwAt H a (g.map kV) := by
  have hd : isRowD d = true := by rcases h.1 with rfl | rfl <;> rfl
  obtain ⟨ds, m, p, xs, rfl, rfl, rx, lx, _, ax, hds⟩ := hv.row hd
  have e' : ds = g.map keyD := by
    rcases hds with ⟨rfl, _⟩ | ⟨rfl, _⟩ <;> rcases h.1 with e | e <;> cases e <;> rfl
  subst e'
  have := ax.syms
  subst this
  exact ⟨p, rfl, rx⟩
section
variable {P : Program} {w : World} {K : PySem.W.Frag} {mg : Str → Option Value} {base : Heap}
theorem ok_is_powers (B : Bi mg) (D : Dfn K mg "is_powers" s_is_powers ["powers", "names"]) (G_is_integer : Has P w K mg base CX0 "is_integer" ["thing"] 1 spInt) :
    Has P w K mg base CX0 "is_powers" ["powers", "names"] 2 spIsPowers := by
  refine D.has sc_is_powers (fun vs H Q E h => ?_) (fun f cdv A outer s H vs Q E hr h => ?_)
  · obtain ⟨D, W, ns, pw, rfl, _⟩ := h; rfl
  · obtain ⟨D', W, ns, pw, rfl, hD, hW, ⟨nd, ok⟩, k⟩ := h
    have hu := hu_of hr
    refine ⟨_, (pss_cons (ps_if (pt_not (pt_val (pe_callB call_isi (by rfl) B.isinstance (by decide +kernel) (pa_cons (pv 0) (pa_cons (pe_bltn (v := .ty "dict") (by rfl) B.dict (by decide +kernel) rfl) pa_nil)))))
  (pss_one (ps_ret pe_bl))
  pss_nil)
  (pss_cons (ps_lock (ps_for PassesOwn.never rfl (pi_keys (pv 0)) (pg_name (i := 2) sc_is_powers.nd rfl (by first | exact Or.inl rfl | exact Or.inr rfl))
  (pss_cons (ps_if (PW.pt (pw_or (pt_not (pt_val (pe_callB call_isi (by rfl) B.isinstance (by decide +kernel) (pa_cons (pv 2) (pa_cons (pe_bltn (v := .ty "str") (by rfl) B.str (by decide +kernel) rfl) pa_nil))))) (pw_or1 (pt_cmp (pc_dnotin hu (pv 2) (pv 1)) rfl))))
  (pss_one (ps_ret pe_bl))
  pss_nil)
  (pss_one (ps_if (PW.pt (pw_or (pt_not (pt_val (pe_has G_is_integer (hr.mono (by omega)) (pa_cons (pe_dget hu (pv 0) (pv 2) (fun _ _ => rfl)) pa_nil)))) (pw_or1 (pt_not (pt_chain op_le op_le pe_int (pe_dget hu (pv 0) (pv 2) (fun _ _ => rfl)) pe_int)))))
  (pss_one (ps_ret pe_bl))
  pss_nil)))))
  (pss_one (ps_ret pe_bl)))), ?_⟩
    refine ⟨_, rfl, _, _, _, _, _, rfl, .ty _, .base (.dK hW), kit_ty (kb_dict (.dict [])), _, rfl, iteF ?_⟩
    refine ⟨W, _, hW, trivial, fun od => ?_⟩
    have sl : Sm H (upd H W (.frz od (.dK (pwKv pw)))) := Sm.lock hW (fun _ _ z => by cases z) (fun _ z => by cases z)
    have rD := sl.rd (.inl hD)
    refine ⟨_, rfl, W, od, rfl, .inl ⟨pwKv pw, upd_same, ?_⟩⟩
    refine for_it (walk_keys (kvs := pwKv pw)) (fun i σ H' => (∃ v, σ = [some (.ref W), some (.ref D'), v]) ∧ H' = upd H W (.frz od (.dK (pwKv pw)))) ⟨⟨_, rfl⟩, rfl⟩ (fun i σ H' _ h => by rw [h.2]; exact upd_same) ?_ ?_
    · rintro i xk σ H2 H3 hi ⟨⟨v, rfl⟩, e2⟩ ⟨rfl, kk, vv, hk, rfl⟩
      obtain ⟨p, hp, rfl, rfl, hv⟩ := pwKv_at nd hk
      obtain ⟨pin, p1, p100⟩ := ok p (List.mem_of_getElem? hp)
      rw [e2]
      have rW : Rd (upd H W (.frz od (.dK (pwKv pw)))) W (.dK (pwKv pw)) := .inr ⟨od, upd_same⟩
      refine ⟨_, rfl, _, _, _, _, _, rfl, .ty _, kV_ty (k := .inr p.1), kit_ty (kb_key (.inr p.1)), _, rfl, iteF ?_⟩
      refine ⟨_, rfl, _, rfl, D', _, rfl, .inl ⟨_, .inr p.1, rD, rfl, rfl⟩, _, rfl, ?_⟩
      rw [valV_nm, if_pos pin]
      refine iteF ?_
      refine ⟨_, rfl, _, rfl, W, _, rfl, .inl ⟨_, .inr p.1, rW, rfl, hv.symm⟩, (fun _ => True), true, 0, .int p.2, .int p.2, rfl, .int _, _, rfl, iteF ?_⟩
      refine ⟨_, rfl, _, rfl, W, _, rfl, .inl ⟨_, .inr p.1, rW, rfl, hv.symm⟩, _, _, rfl, rfl, _, rfl, ?_⟩
      rw [decide_eq_true p1]
      refine iteT ⟨_, _, rfl, rfl, _, rfl, ?_⟩
      rw [decide_eq_true p100]
      exact iteF ⟨⟨_, rfl⟩, rfl⟩
    · rintro σ H2 ⟨⟨v, rfl⟩, rfl⟩
      refine ⟨upd_same, ?_⟩
      exact k _ (Kp.unlock hW (Kp.refl _))
theorem ok_pat_init {f C : Addr} {fd : FuncData} (B : BiP mg) (F : Fun K "__init__" "Pattern.__init__" s_Pattern_init f fd) (U : PatCls K mg C) (G_checked_rows : Has P w K mg base CX0 "checked_rows" ["rows"] 3 spChecked) (G_names_in_order : Has P w K mg base CX0 "names_in_order" ["rows"] 2 spNames)
    (G_is_group : Has P w K mg base CX0 "is_group" ["group", "names"] 3 spIsGroup) (G_is_powers : Has P w K mg base CX0 "is_powers" ["powers", "names"] 2 spIsPowers) (G_renamed_rows : Has P w K mg base CX0 "renamed_rows" ["rows", "names"] 3 spRenRows) (G_renamed : Has P w K mg base CX0 "renamed" ["symbols", "names"] 2 spRenamed) :
    FnOk P w K mg base CX0 4 f fd ["self", "rows", "group", "powers"] (spPatI C) := by
  refine F.ok sc_Pattern_init (fun vs H Q E h => ?_) (fun cdv A outer s H vs Q E hr h => ?_)
  · obtain ⟨p, dx, W, S, S2, q, q2, n, n2, x, y, d, dg, es, ps, g, pw, rfl, _⟩ := h; rfl
  · obtain ⟨p, dx, W, S, S2, q, q2, n, n2, x, y, d, dg, es, ps, g, pw, rfl, hp, hx, rd, l6, hps, hy, hg, hW, hpw, k⟩ := h
    have hu := hu_of hr
    refine ⟨_, (pss_cons (ps_set (i := 4) sc_Pattern_init.nd rfl (by first | exact Or.inl rfl | exact Or.inr rfl) (pe_has G_checked_rows (hr.mono (by omega)) (pa_cons (pv 1) pa_nil)))
  (pss_cons (ps_if (pt_cmpR op_isN (pv 4) pe_non (nomark _))
  (pss_one ps_never)
  pss_nil)
  (pss_cons (ps_set (i := 5) sc_Pattern_init.nd rfl (by first | exact Or.inl rfl | exact Or.inr rfl) (pe_has G_names_in_order (hr.mono (by omega)) (pa_cons (pv 4) pa_nil)))
  (pss_cons (ps_if (pt_not (pt_val (pe_has G_is_group (hr.mono (by omega)) (pa_cons (pv 2) (pa_cons (pv 5) pa_nil)))))
  (pss_one ps_never)
  pss_nil)
  (pss_cons (ps_if (pt_not (pt_val (pe_has G_is_powers (hr.mono (by omega)) (pa_cons (pv 3) (pa_cons (pv 5) pa_nil)))))
  (pss_one ps_never)
  pss_nil)
  (pss_cons (ps_fld (pv 0) (pe_has G_renamed_rows (hr.mono (by omega)) (pa_cons (pv 4) (pa_cons (pv 5) pa_nil))) rfl)
  (pss_cons (ps_fld (pv 0) (pe_has G_renamed (hr.mono (by omega)) (pa_cons (pv 2) (pa_cons (pv 5) pa_nil))) rfl)
  (pss_one (ps_fld (pv 0) (pe_callTy call_tuple_of (by rfl) B.tuple (by decide +kernel) (pa_cons (pe_callB (cr_sortedSI hr.units) (by rfl) B.sorted (by decide +kernel) (pa_cons (pe_lock (pe_lc (own := [("name", 6)]) (g := gName 6) (by rfl) sc_Pattern_init.nd (pi_keys (pv 3)) (blkOk_by (own := [("name", 6)]) (N := N_Pattern_init) (sc := defScope s_Pattern_init) (by decide +kernel)) (fun _ _ _ _ _ => (pg_name (i := 6) sc_Pattern_init.nd rfl (by first | exact Or.inl rfl | exact Or.inr rfl))) (fun _ _ _ _ _ => pts_nil) (fun _ _ _ _ _ => (pe_tup (pa_cons (pe_dget hu (pv 5) (pv 6) (fun _ _ => rfl)) (pa_cons (pe_dget hu (pv 3) (pv 6) (fun _ _ => rfl)) pa_nil)))))) pa_nil)) pa_nil)) rfl))))))))), ?_⟩
    have okp : PsOk ps := ⟨by rw [← hps.len]; exact l6, hps.ok⟩
    generalize hns : namesP ps = ns at hg hpw
    refine ⟨_, rfl, S, q, n, x, d, es, ps, rfl, hx, rd, l6, hps, fun L xs H1 k1 _ hL ix => ?_⟩
    refine ⟨_, rfl, rfl, _, rfl, iteF ?_⟩
    refine ⟨_, rfl, L, xs, ps, rfl, hL, ix, okp, fun D H2 k2 _ hD => ?_⟩
    rw [hns] at hD
    have k12 := k1.trans k2
    refine ⟨_, rfl, _, rfl, S2, q2, n2, y, dg, D, ns, g, rfl, hy.keep k12, hD, hg, fun H3 k3 => ⟨_, rfl, iteF ?_⟩⟩
    have k13 := k12.trans k3
    refine ⟨_, rfl, _, rfl, D, W, ns, pw, rfl, k3.at_ _ _ hD (fun z => nomatch z), k13.at_ _ _ hW (fun z => nomatch z), hpw, fun H4 k4 => ⟨_, rfl, iteF ?_⟩⟩
    have k14 := k13.trans k4
    have k24 := k3.trans k4
    have n24 := namesP_len okp
    rw [hns] at n24
    have w24 := hpw.len
    obtain ⟨a, rfl, ra⟩ := hg.row hy
    have hap : a ∉ [p] := by
      intro z
      have z : a = p := by simpa using z
      subst z
      rcases ra with (r | ⟨o, r⟩) | r <;> rw [hp] at r <;> cases r
    have hWp : W ∉ [p] := by
      intro z
      have z : W = p := by simpa using z
      subst z
      rw [hp] at hW; cases hW
    have hp2 := k12.at_ _ _ hp (fun z => nomatch z)
    have hDp : D ∉ [p] := by
      intro z
      have z : D = p := by simpa using z
      subst z
      rw [hp2] at hD; cases hD
    refine ⟨_, rfl, _, rfl, L, D, xs, ps, ns, rfl, (k2.trans k24).at_ _ _ hL (fun z => nomatch z), ImAll.kp (k2.trans k24) ix, okp, k24.at_ _ _ hD (fun z => nomatch z), fun v1 H5 k5 i5 => ?_⟩
    have k15 := k14.trans k5
    have hp5 := k15.at_ _ _ hp (fun z => nomatch z)
    refine ⟨_, rfl, p, C, dx, [], rfl, hp5, U.cl, U.nR, by show 0 < 1000; decide, ?_⟩
    generalize h6 : upd H5 p (.ins C dx (putF "rows" v1 [])) = H6
    have k56 : Kp [p] H5 H6 := h6 ▸ Kp.set hp5 (fun _ z => by cases z) (by simp)
    have k16 : Kp [p] H H6 := k15.zero.trans k56
    have k26 : Kp [p] H2 H6 := (k24.trans k5).zero.trans k56
    have hp6 : H6 p = some (.ins C dx (putF "rows" v1 [])) := by rw [← h6]; exact upd_same
    refine ⟨_, rfl, _, rfl, a, D, g, ns, rfl, ra.kp k16 hap, by have := hg.2.1; omega, k26.at_ _ _ hD hDp, fun l H7 k7 h7 => ?_⟩
    have hp7 := k7.at_ _ _ hp6 (fun z => nomatch z)
    refine ⟨_, rfl, p, C, dx, _, rfl, hp7, U.cl, U.nG, by show 1 < 1000; decide, ?_⟩
    generalize h8 : upd H7 p (.ins C dx (putF "group" (.ref l) (putF "rows" v1 []))) = H8
    have k78 : Kp [p] H7 H8 := h8 ▸ Kp.set hp7 (fun _ z => by cases z) (by simp)
    have k18 : Kp [p] H H8 := (k16.trans k7.zero).trans k78
    have k28 : Kp [p] H2 H8 := (k26.trans k7.zero).trans k78
    have hp8 : H8 p = some (.ins C dx (putF "group" (.ref l) (putF "rows" v1 []))) := by rw [← h8]; exact upd_same
    have hW8 := k18.at_ _ _ hW hWp
    have hD8 := k28.at_ _ _ hD hDp
    refine ⟨W, _, hW8, trivial, fun od => ?_⟩
    have sl : Sm H8 (upd H8 W (.frz od (.dK (pwKv pw)))) := Sm.lock hW8 (fun _ _ z => by cases z) (fun _ z => by cases z)
    have rD := sl.rd (.inl hD8)
    refine ⟨_, rfl, W, od, rfl, .inl ⟨pwKv pw, upd_same, fun L2 hL2 => ?_⟩⟩
    refine lc_it (walk_keys (kvs := pwKv pw)) (fun j H' => ∃ zs, H' L2 = some (.lst zs) ∧ PowAll H' zs ((pw.take j).map (nmPw ns)) ∧ zs.length = j ∧ Kp [] (upd H8 W (.frz od (.dK (pwKv pw)))) H') ⟨[], upd_same, .nil, rfl, Kp.new hL2⟩ (fun j H' _ h => let ⟨_, _, _, _, kq⟩ := h; kq.at_ _ _ upd_same (fun z => nomatch z)) (fun j xk H9 H10 hj h9 hy => ?_) (fun H9 h9 => ?_)
    · obtain ⟨zs, hz, pz, lz, k9⟩ := h9
      obtain ⟨rfl, kk, vv, hk, rfl⟩ := hy
      obtain ⟨e, he, rfl, rfl, hv⟩ := pwKv_at hpw.1 hk
      have pin := (hpw.2 e (List.mem_of_getElem? he)).1
      have rD9 := k9.rd (fun z => nomatch z) rD
      have rW9 : Rd H10 W (.dK (pwKv pw)) := k9.rd (fun z => nomatch z) (.inr ⟨od, upd_same⟩)
      refine ⟨rfl, _, rfl, _, rfl, D, _, rfl, .inl ⟨_, .inr e.1, rD9, rfl, by rw [valV_nm, if_pos pin]⟩, _, rfl, _, rfl, W, _, rfl, .inl ⟨_, .inr e.1, rW9, rfl, hv.symm⟩, by show 2 ≤ sizeLine; decide, fun t ht => ?_⟩
      have hzt : upd H10 t (.tup [.str (ltr (ns.idxOf e.1)), .int e.2]) L2 = some (.lst zs) := (Kp.new (ms := []) ht).at_ _ _ hz (fun z => nomatch z)
      refine ⟨zs, hzt, ?_, zs ++ [.ref t], upd_same, ?_, by simp [lz], (k9.snoc ht).late hL2⟩
      · rw [lz]
        rw [show (pwKv pw).length = pw.length from List.length_map ..] at hj
        exact small1000 (by omega)
      · rw [take_snoc he, List.map_append]
        have kL : Kp [L2] (upd H10 t (.tup [.str (ltr (ns.idxOf e.1)), .int e.2])) (upd (upd H10 t (.tup [.str (ltr (ns.idxOf e.1)), .int e.2])) L2 (.lst (zs ++ [.ref t]))) := Kp.updL hzt (by simp)
        have ht7 := kL.tp _ _ (upd_same (H := H10) (a := t))
        exact (pz.kp ((Kp.new (ms := [L2]) ht).trans kL)).snoc ⟨t, rfl, ht7⟩
    · obtain ⟨zs, hz, pz, lz, k9⟩ := h9
      rw [show (pwKv pw).length = pw.length from List.length_map .., List.take_length] at pz
      refine ⟨k9.at_ _ _ upd_same (fun z => nomatch z), ?_⟩
      have L2W : L2 ≠ W := fun z => by rw [z, upd_same] at hL2; cases hL2
      have k89 : Kp [] H8 (upd H9 W (.dK (pwKv pw))) := Kp.unlock hW8 k9
      have hW9 := k9.at_ _ _ upd_same (fun z => nomatch z)
      have pz' : PowAll (upd H9 W (.dK (pwKv pw))) zs (pw.map (nmPw ns)) := pz.kp (ms := [W]) (Kp.set hW9 (fun _ z => by cases z) (by simp))
      refine ⟨L2, zs, _, rfl, SqL.of (by rw [upd_ne L2W]; exact hz), pz', fun dd ys hdd hys => ?_⟩
      refine ⟨dd, ys, rfl, .inl ⟨SqL.of upd_same, fun tt htt => ?_⟩⟩
      generalize h10 : upd (upd (upd H9 W (.dK (pwKv pw))) dd (.lst ys)) tt (.tup ys) = H10
      have k810 : Kp [] H8 H10 := h10 ▸ (k89.snoc hdd).snoc htt
      have hp10 := k810.at_ _ _ hp8 (fun z => nomatch z)
      refine ⟨_, rfl, p, C, dx, _, rfl, hp10, U.cl, U.nP, by show 2 < 1000; decide, ?_⟩
      have kx : Kp [p] H10 (upd H10 p (.ins C dx (putF "powers" (.ref tt) (putF "group" (.ref l) (putF "rows" v1 []))))) := Kp.set hp10 (fun _ z => by cases z) (by simp)
      have k7x := (k78.trans k810.zero).trans kx
      have kdx : Kp [p] (upd H9 W (.dK (pwKv pw))) (upd H10 p (.ins C dx (putF "powers" (.ref tt) (putF "group" (.ref l) (putF "rows" v1 []))))) := (h10 ▸ (Kp.new hdd).snoc htt : Kp [p] _ H10).trans kx
      have htt10 : H10 tt = some (.tup ys) := by rw [← h10]; exact upd_same
      refine k _ ((k18.trans k810.zero).trans kx) ⟨dx, v1, .ref l, .ref tt, upd_same, ?_, ?_, ?_⟩
      · show Im _ 3 v1 (.tuple ((ps.map (renR (namesP ps))).map dPR))
        rw [hns]
        exact Im.kp ((k56.trans k7.zero).trans k7x) i5
      · show Im _ 1 (.ref l) (dSyms (g.map (ren (namesP ps))))
        rw [hns]
        have hl := k7x.tp _ _ h7
        refine .tup hl ⟨by rw [List.length_map, List.length_map]; have := hg.2.1; omega, ⟨_, hl⟩⟩ (dt_syms fun y hy => ?_)
        obtain ⟨y0, hy0, rfl⟩ := List.mem_map.mp hy
        exact ren_ok (hg.2.2.1 y0 hy0)
      · show Im _ 2 (.ref tt) (.tuple ((srt (pw.map (nmPw (namesP ps)))).map dPow))
        rw [hns]
        have ht := kx.tp _ _ htt10
        have ly := hys.len
        rw [srt_len, List.length_map] at ly
        refine .tup ht ⟨by omega, ⟨_, ht⟩⟩ ((hys.kp kdx).im fun e he => ?_)
        obtain ⟨e0, _, rfl⟩ := List.mem_map.mp (srt_mem.mp he)
        show (ltr _).length ≤ 1000000
        unfold ltr; show 1 ≤ 1000000; decide
end
end Fm

namespace Fm
open PySem PySem.Spec PyProof.Rows L2
/-! ### patterns as data: equal as Python sees them -/
def SymLay : Key → Prop
  | .inl _ => True
  | .inr s => PyData.strOk s = true
structure Pat.Ok (T : Pat) : Prop where
  rows : ∀ r ∈ T.rows, IsNm r.1 ∧ ∀ k ∈ r.2, SymLay k
  grp : ∀ k ∈ T.grp, SymLay k
  pws : ∀ p ∈ T.pws, PyData.strOk p.1 = true
theorem ltr_ok {i : Nat} (h : i < 24) : PyData.strOk (ltr i) = true := by
  unfold PyData.strOk
  rw [Array.all_eq_true']
  intro c hc
  have : c = 97 + i := by simpa [ltr] using hc
  simp
  omega
theorem ren_lay {ns : List Str} {k : Key} (hn : ns.length ≤ 24) (h : ∀ s, k = .inr s → s ∈ ns) : SymLay (ren ns k) := by
  cases k with
  | inl i => trivial
  | inr s =>
    rw [ren_inr, if_pos (h s rfl)]
    exact ltr_ok (Nat.lt_of_lt_of_le (List.idxOf_lt_length_of_mem (h s rfl)) hn)
theorem canP_ok {ps : List (Str × List Key)} {g : List Key} {pw : List (Str × Int)} (ok : PsOk ps) (hg : ∀ s, Sum.inr s ∈ g → s ∈ namesP ps) (hw : PwOk (namesP ps) pw) : (canP ps g pw).Ok := by
  have n24 := namesP_len ok
  refine ⟨fun r hr => ?_, fun k hk => ?_, fun p hp => ?_⟩
  · obtain ⟨r0, h0, rfl⟩ := List.mem_map.mp hr
    refine ⟨(ok.2 r0 h0).1, fun k hk => ?_⟩
    obtain ⟨k0, hk0, rfl⟩ := List.mem_map.mp hk
    exact ren_lay n24 fun s e => foldR_in ps [] s r0 h0 (e ▸ hk0)
  · obtain ⟨k0, hk0, rfl⟩ := List.mem_map.mp hk
    exact ren_lay n24 fun s e => hg s (e ▸ hk0)
  · obtain ⟨e0, h0, rfl⟩ := List.mem_map.mp (srt_mem.mp hp)
    exact ltr_ok (Nat.lt_of_lt_of_le (List.idxOf_lt_length_of_mem (hw.2 e0 h0).1) n24)
theorem eqv_key (a b : Key) : PyData.eqv (keyD a) (keyD b) = decide (a = b) := by
  cases a <;> cases b <;> simp only [keyD, PyData.eqv]
  · rename_i x y
    by_cases h : x = y
    · subst h; simp
    · simp [h]
  · simp
  · simp
  · rename_i x y
    by_cases h : x = y
    · subst h; simp
    · simp [h]
theorem eqv_keys : ∀ a b : List Key, PyData.eqvAll (a.map keyD) (b.map keyD) = decide (a = b)
  | [], [] => by simp [PyData.eqvAll]
  | [], _ :: _ => by simp [PyData.eqvAll]
  | _ :: _, [] => by simp [PyData.eqvAll]
  | x :: a, y :: b => by
    simp only [List.map_cons, PyData.eqvAll, eqv_key, eqv_keys a b]
    by_cases h : x = y
    · subst h; simp
    · simp [h]
theorem eqv_syms (a b : List Key) : PyData.eqv (dSyms a) (dSyms b) = decide (a = b) := by
  simp only [dSyms, PyData.eqv, eqv_keys]
theorem eqv_pr (t u : Str × List Key) : PyData.eqv (dPR t) (dPR u) = decide (t = u) := by
  simp only [dPR, PyData.eqv, PyData.eqvAll, eqv_syms]
  by_cases h : t.1 = u.1
  · by_cases h' : t.2 = u.2
    · have : t = u := Prod.ext h h'
      subst this; simp
    · have : t ≠ u := fun z => h' (by rw [z])
      simp [h', this]
  · have : t ≠ u := fun z => h (by rw [z])
    simp [h, this]
theorem eqv_prsL : ∀ ts us : List (Str × List Key), PyData.eqvAll (ts.map dPR) (us.map dPR) = decide (ts = us)
  | [], [] => by simp [PyData.eqvAll]
  | [], _ :: _ => by simp [PyData.eqvAll]
  | _ :: _, [] => by simp [PyData.eqvAll]
  | t :: ts, u :: us => by
    simp only [List.map_cons, PyData.eqvAll, eqv_pr, eqv_prsL ts us]
    by_cases h : t = u
    · subst h; simp
    · simp [h]
theorem eqv_prs (ts us : List (Str × List Key)) : PyData.eqv (.tuple (ts.map dPR)) (.tuple (us.map dPR)) = decide (ts = us) := by
  simp only [PyData.eqv, eqv_prsL]
theorem eqv_pw (t u : Str × Int) : PyData.eqv (dPow t) (dPow u) = decide (t = u) := by
  simp only [dPow, PyData.eqv, PyData.eqvAll]
  by_cases h : t.1 = u.1
  · by_cases h' : t.2 = u.2
    · have : t = u := Prod.ext h h'
      subst this; simp
    · have : t ≠ u := fun z => h' (by rw [z])
      simp [h', this]
  · have : t ≠ u := fun z => h (by rw [z])
    simp [h, this]
theorem eqv_pwsL : ∀ ts us : List (Str × Int), PyData.eqvAll (ts.map dPow) (us.map dPow) = decide (ts = us)
  | [], [] => by simp [PyData.eqvAll]
  | [], _ :: _ => by simp [PyData.eqvAll]
  | _ :: _, [] => by simp [PyData.eqvAll]
  | t :: ts, u :: us => by
    simp only [List.map_cons, PyData.eqvAll, eqv_pw, eqv_pwsL ts us]
    by_cases h : t = u
    · subst h; simp
    · simp [h]
theorem eqv_pws (ts us : List (Str × Int)) : PyData.eqv (.tuple (ts.map dPow)) (.tuple (us.map dPow)) = decide (ts = us) := by
  simp only [PyData.eqv, eqv_pwsL]
theorem lay_key : ∀ {k : Key}, SymLay k → (keyD k).canLay0 = true
  | .inl _, _ => by simp [keyD, PyData.canLay0]
  | .inr _, h => by simp only [keyD, PyData.canLay0]; exact h
theorem lay_keys : ∀ {a : List Key}, (∀ k ∈ a, SymLay k) → PyData.canLayAll0 (a.map keyD) = true
  | [], _ => by simp [PyData.canLayAll0]
  | x :: a, h => by
    simp only [List.map_cons, PyData.canLayAll0, lay_key (h x List.mem_cons_self), lay_keys fun k hk => h k (List.mem_cons_of_mem _ hk), Bool.and_self]
theorem lay_prs : ∀ {ts : List (Str × List Key)}, (∀ r ∈ ts, IsNm r.1 ∧ ∀ k ∈ r.2, SymLay k) → PyData.canLayAll0 (ts.map dPR) = true
  | [], _ => by simp [PyData.canLayAll0]
  | t :: ts, h => by
    have g := h t List.mem_cons_self
    simp only [List.map_cons, PyData.canLayAll0, dPR, dSyms, PyData.canLay0, strOk_nm g.1, lay_keys g.2, lay_prs fun x hx => h x (List.mem_cons_of_mem _ hx), Bool.and_self]
theorem lay_pws : ∀ {ts : List (Str × Int)}, (∀ p ∈ ts, PyData.strOk p.1 = true) → PyData.canLayAll0 (ts.map dPow) = true
  | [], _ => by simp [PyData.canLayAll0]
  | t :: ts, h => by
    simp only [List.map_cons, PyData.canLayAll0, dPow, PyData.canLay0, h t List.mem_cons_self, lay_pws fun x hx => h x (List.mem_cons_of_mem _ hx), Bool.and_self]
theorem dep_keys : ∀ a : List Key, PyData.depthAll (a.map keyD) = 0
  | [] => by simp [PyData.depthAll]
  | .inl x :: a => by simp [PyData.depthAll, keyD, PyData.depth, dep_keys a]
  | .inr x :: a => by simp [PyData.depthAll, keyD, PyData.depth, dep_keys a]
theorem dep_prs : ∀ ts : List (Str × List Key), PyData.depthAll (ts.map dPR) ≤ 2
  | [] => by simp [PyData.depthAll]
  | t :: ts => by
    have := dep_prs ts
    simp only [List.map_cons, PyData.depthAll, dPR, dSyms, PyData.depth, dep_keys]
    omega
theorem dep_pws : ∀ ts : List (Str × Int), PyData.depthAll (ts.map dPow) ≤ 1
  | [] => by simp [PyData.depthAll]
  | t :: ts => by
    have := dep_pws ts
    simp only [List.map_cons, PyData.depthAll, dPow, PyData.depth]
    omega
theorem lay_tup {ds : List PyData} (h : PyData.canLayAll0 ds = true) : (PyData.tuple ds).canLay0 = true := by simp only [PyData.canLay0, h]
theorem shaped_of {ds : List PyData} (h : PyData.canLayAll0 ds = true) (hd : PyData.depthAll ds ≤ 2) : SeqAt.shaped (.tuple ds) = true := by
  refine Bool.and_eq_true_iff.mpr ⟨by simp only [PyData.canLay0, h], decide_eq_true ?_⟩
  simp only [PyData.depth]
  omega
def spPatEq (C : Addr) : Sp := fun vs H Q _ => ∃ (p : Addr) (y : V) (T : Pat), vs = [.ref p, y] ∧ PatAt C H p T ∧ T.Ok ∧
  ((∃ p' U, y = .ref p' ∧ PatAt C H p' U ∧ U.Ok ∧ Q (.bl (decide (T = U))) H) ∨ ∃ S q n d, Dt S q H n y d ∧ Q (.bl false) H)
section
variable {P : Program} {w : World} {K : PySem.W.Frag} {mg : Str → Option Value} {base : Heap}
theorem ok_pat_eq {f C : Addr} {fd : FuncData} (B : Bi mg) (F : Fun K "__eq__" "Pattern.__eq__" s_Pattern_eq f fd) (U : PatCls K mg C) (X : InsX K C) : FnOk P w K mg base CX0 1 f fd ["self", "other"] (spPatEq C) := by
  refine F.ok sc_Pattern_eq (fun vs H Q E h => ?_) (fun cdv A outer s H vs Q E hr h => ?_)
  · obtain ⟨p, y, T, rfl, _⟩ := h; rfl
  · obtain ⟨p, y, T, rfl, ⟨dx, v1, v2, v3, hp, i1, i2, i3⟩, g, h⟩ := h
    refine ⟨_, (pss_cons (ps_if (pt_not (pt_val (pe_callB call_isi (by rfl) B.isinstance (by decide +kernel) (pa_cons (pv 1) (pa_cons (pe_glob (v := .ref C) rfl U.mgC rfl) pa_nil)))))
  (pss_one (ps_ret pe_bl))
  pss_nil)
  (pss_one (ps_ret (pe_and (pe_cmpR (op_eqD hr.units) (pe_fld (pv 0) rfl) (pe_fld (pv 1) rfl) (nomark _)) (pe_and (pe_cmpR (op_eqD hr.units) (pe_fld (pv 0) rfl) (pe_fld (pv 1) rfl) (nomark _)) (pe_one (pe_cmpR (op_eqD hr.units) (pe_fld (pv 0) rfl) (pe_fld (pv 1) rfl) (nomark _)))))))), ?_⟩
    rcases h with ⟨p', T', rfl, ⟨dx', w1, w2, w3, hp', j1, j2, j3⟩, g', q⟩ | ⟨S, qq, n, d, hd, q⟩
    · refine ⟨_, rfl, _, _, _, _, _, rfl, .own C, X.ty hp', kit_self, _, rfl, ?_⟩
      refine iteT (B := True) ?_
      refine ⟨_, rfl, p, C, dx, _, _, rfl, hp, U.cl, U.nR, rfl, _, rfl, p', C, dx', _, _, rfl, hp', U.cl, U.nR, rfl, ?_⟩
      refine ⟨_, _, i1.dp (lay_tup (lay_prs g.rows)), j1.dp (lay_tup (lay_prs g'.rows)), shaped_of (lay_prs g.rows) (dep_prs _), shaped_of (lay_prs g'.rows) (dep_prs _), ?_⟩
      rw [eqv_prs]
      by_cases e1 : T.rows = T'.rows
      · rw [decide_eq_true e1]
        refine ⟨_, rfl, iteT ?_⟩
        refine ⟨_, rfl, p, C, dx, _, _, rfl, hp, U.cl, U.nG, rfl, _, rfl, p', C, dx', _, _, rfl, hp', U.cl, U.nG, rfl, ?_⟩
        refine ⟨_, _, i2.dp (lay_tup (lay_keys g.grp)), j2.dp (lay_tup (lay_keys g'.grp)), shaped_of (lay_keys g.grp) (by rw [dep_keys]; decide), shaped_of (lay_keys g'.grp) (by rw [dep_keys]; decide), ?_⟩
        rw [eqv_syms]
        by_cases e2 : T.grp = T'.grp
        · rw [decide_eq_true e2]
          refine ⟨_, rfl, iteT ?_⟩
          refine ⟨_, rfl, p, C, dx, _, _, rfl, hp, U.cl, U.nP, rfl, _, rfl, p', C, dx', _, _, rfl, hp', U.cl, U.nP, rfl, ?_⟩
          refine ⟨_, _, i3.dp (lay_tup (lay_pws g.pws)), j3.dp (lay_tup (lay_pws g'.pws)), shaped_of (lay_pws g.pws) (Nat.le_trans (dep_pws _) (by decide)), shaped_of (lay_pws g'.pws) (Nat.le_trans (dep_pws _) (by decide)), ?_⟩
          rw [eqv_pws]
          have e : decide (T = T') = decide (T.pws = T'.pws) := by
            by_cases e3 : T.pws = T'.pws
            · rw [decide_eq_true e3, decide_eq_true]
              cases T; cases T'
              cases e1; cases e2; cases e3; rfl
            · rw [decide_eq_false e3, decide_eq_false]
              exact fun z => e3 (by rw [z])
          rw [← e]; exact q
        · rw [decide_eq_false e2]
          rw [decide_eq_false (fun z => e2 (by rw [z]))] at q
          exact ⟨_, rfl, iteF q⟩
      · rw [decide_eq_false e1]
        rw [decide_eq_false (fun z => e1 (by rw [z]))] at q
        exact ⟨_, rfl, iteF q⟩
    · exact ⟨_, rfl, _, _, _, _, _, rfl, .own C, hd.ty, X.datD d, _, rfl, iteF (A := True) q⟩
end
end Fm

namespace Fm
open PySem PySem.Spec PyProof.Rows L2
/-! ### the law's own names of a pattern -/
theorem idx_pre {s : Str} {ms ns : List Str} (h : s ∈ ms) (p : ms <+: ns) : ns.idxOf s = ms.idxOf s := by
  obtain ⟨t, rfl⟩ := p
  rw [List.idxOf_append, if_pos h]
theorem ren_pre {s : Str} {ms ns : List Str} (h : s ∈ ms) (p : ms <+: ns) : ren ms (.inr s) = ren ns (.inr s) := by
  rw [ren_inr, ren_inr, if_pos h, if_pos (p.subset h), idx_pre h p]
theorem addN_pre (ns : List Str) (k : Key) : ns <+: addN ns k := by
  cases k with
  | inl _ => exact List.prefix_refl _
  | inr t =>
    rw [addN_inr]
    split
    · exact List.prefix_refl _
    · exact List.prefix_append _ _
theorem foldN_pre : ∀ (ks : List Key) (ns : List Str), ns <+: ks.foldl addN ns
  | [], _ => List.prefix_refl _
  | k :: ks, ns => (addN_pre ns k).trans (foldN_pre ks _)
theorem foldR_pre : ∀ (ps : List (Str × List Key)) (ns : List Str), ns <+: ps.foldl addR ns
  | [], _ => List.prefix_refl _
  | r :: ps, ns => (foldN_pre r.2 ns).trans (foldR_pre ps _)
theorem names_pre {ps : List (Str × List Key)} {i : Nat} {r : Str × List Key} (h : ps[i]? = some r) (j : Nat) : (r.2.take j).foldl addN ((ps.take i).foldl addR []) <+: namesP ps := by
  have e : ps = ps.take (i + 1) ++ ps.drop (i + 1) := (List.take_append_drop ..).symm
  unfold namesP
  rw [e, List.foldl_append]
  refine List.IsPrefix.trans ?_ (foldR_pre _ _)
  rw [← e, take_snoc h, List.foldl_append]
  show _ <+: addR _ r
  unfold addR
  have e2 : r.2 = r.2.take j ++ r.2.drop j := (List.take_append_drop ..).symm
  conv => rhs; rw [e2]
  rw [List.foldl_append]
  exact foldN_pre _ _
/-- rows as the law makes them: tuples of a name and a list -/
inductive RawAll (ms : List Addr) (H : Hp) : List V → List (Str × List Key) → Prop
  | nil : RawAll ms H [] []
  | cons {a b : Addr} {r : Str × List Key} {xs : List V} {ps : List (Str × List Key)} : H a = some (.tup [.str r.1, .ref b]) → H b = some (.lst (r.2.map kV)) → b ∉ ms → RawAll ms H xs ps → RawAll ms H (.ref a :: xs) (r :: ps)
theorem RawAll.kp {ms : List Addr} {H H' : Hp} (k : Kp ms H H') : ∀ {xs : List V} {ps : List (Str × List Key)}, RawAll ms H xs ps → RawAll ms H' xs ps
  | _, _, .nil => .nil
  | _, _, .cons a b c d => .cons (k.tp _ _ a) (k.at_ _ _ b c) c (d.kp k)
theorem RawAll.mono {ms ms' : List Addr} {H : Hp} (h : ∀ x ∈ ms', x ∈ ms) : ∀ {xs : List V} {ps : List (Str × List Key)}, RawAll ms H xs ps → RawAll ms' H xs ps
  | _, _, .nil => .nil
  | _, _, .cons a b c d => .cons a b (fun z => c (h _ z)) (d.mono h)
theorem RawAll.len {ms : List Addr} {H : Hp} : ∀ {xs : List V} {ps : List (Str × List Key)}, RawAll ms H xs ps → xs.length = ps.length
  | _, _, .nil => rfl
  | _, _, .cons _ _ _ d => congrArg (· + 1) d.len
theorem RawAll.get {ms : List Addr} {H : Hp} : ∀ {xs : List V} {ps : List (Str × List Key)}, RawAll ms H xs ps → ∀ {i : Nat} {u : V}, xs[i]? = some u → ∃ a b r, u = .ref a ∧ ps[i]? = some r ∧ H a = some (.tup [.str r.1, .ref b]) ∧ H b = some (.lst (r.2.map kV)) ∧ b ∉ ms
  | _, _, .cons a b c d, 0, u, h => by cases h; exact ⟨_, _, _, rfl, rfl, a, b, c⟩
  | _, _, .cons a b c d, i + 1, u, h => d.get (i := i) h
theorem RawAll.snoc {ms : List Addr} {H : Hp} {a b : Addr} {r : Str × List Key} (h1 : H a = some (.tup [.str r.1, .ref b])) (h2 : H b = some (.lst (r.2.map kV))) (h3 : b ∉ ms) : ∀ {xs : List V} {ps : List (Str × List Key)}, RawAll ms H xs ps → RawAll ms H (xs ++ [.ref a]) (ps ++ [r])
  | _, _, .nil => .cons h1 h2 h3 .nil
  | _, _, .cons a b c d => .cons a b c (d.snoc h1 h2 h3)
def dPat (T : Pat) : PyData := .tuple [.tuple (T.rows.map dPR), dSyms T.grp, .tuple (T.pws.map dPow)]
/-- what stands of raw rows, group and powers -/
structure RawAt (ms : List Addr) (H : Hp) (R G W : Addr) (ps : List (Str × List Key)) (g : List Key) (pw : List (Str × Int)) : Prop where
  rows : ∃ xs, H R = some (.lst xs) ∧ RawAll ms H xs ps
  nR : R ∉ ms
  grp : H G = some (.lst (g.map kV))
  nG : G ∉ ms
  pws : H W = some (.dK (pwKv pw))
  nW : W ∉ ms
  ok : PsOk ps
  okg : g.length ≤ 3 ∧ (∀ k ∈ g, SymOk k) ∧ ∀ s, Sum.inr s ∈ g → s ∈ namesP ps
  okw : PwOk (namesP ps) pw
theorem RawAt.kp {ms : List Addr} {H H' : Hp} {R G W : Addr} {ps : List (Str × List Key)} {g : List Key} {pw : List (Str × Int)} (h : RawAt ms H R G W ps g pw) (k : Kp ms H H') : RawAt ms H' R G W ps g pw := by
  obtain ⟨⟨xs, h1, h2⟩, a, b, c, d, e, f, i, j⟩ := h
  exact ⟨⟨xs, k.at_ _ _ h1 a, h2.kp k⟩, a, k.at_ _ _ b c, c, k.at_ _ _ d e, e, f, i, j⟩
theorem RawAt.mono {ms ms' : List Addr} {H : Hp} {R G W : Addr} {ps : List (Str × List Key)} {g : List Key} {pw : List (Str × Int)} (h : RawAt ms H R G W ps g pw) (m : ∀ x ∈ ms', x ∈ ms) : RawAt ms' H R G W ps g pw := by
  obtain ⟨⟨xs, h1, h2⟩, a, b, c, d, e, f, i, j⟩ := h
  exact ⟨⟨xs, h1, h2.mono m⟩, fun z => a (m _ z), b, fun z => c (m _ z), d, fun z => e (m _ z), f, i, j⟩
def spDue : Sp := fun vs H Q _ => ∃ (R G W : Addr) (ps : List (Str × List Key)) (g : List Key) (pw : List (Str × Int)), vs = [.ref R, .ref G, .ref W] ∧ RawAt [] H R G W ps g pw ∧ ∀ v H', Kp [] H H' → Im H' 4 v (dPat (canP ps g pw)) → Q v H'
def abx : Str := "abcdefghijklmnopqrstuvwx"
theorem abx_at : ∀ n : Nat, n < 24 → abx.cps.toList[n]? = some (97 + n) := by decide +kernel
theorem abx_size : abx.cps.toList.length = 24 := by decide +kernel
theorem abx_len : abx.length = 24 := by decide +kernel
theorem abx_ix {r : Int} (h0 : 0 ≤ r) (h1 : r < 24) : atI abx.cps.toList r = some (97 + r.toNat) := by
  unfold atI ixN
  rw [abx_size, if_pos h0, if_pos (by omega)]
  exact abx_at r.toNat (by omega)
section
variable {P : Program} {w : World} {K : PySem.W.Frag} {mg : Str → Option Value} {base : Heap}
theorem ok_due (B : BiP mg) (D : Dfn K mg "_law_due" s__law_due ["_law_rows", "_law_group", "_law_powers"]) :
    Has P w K mg base CX0 "_law_due" ["_law_rows", "_law_group", "_law_powers"] 2 spDue := by
  refine D.has sc__law_due (fun vs H Q E h => ?_) (fun f cdv A outer s H vs Q E hr h => ?_)
  · obtain ⟨R, G, W, ps, g, pw, rfl, _⟩ := h; rfl
  · obtain ⟨R, G, W, ps, g, pw, rfl, RA, k⟩ := h
    have hu := hu_of hr
    refine ⟨_, (pss_cons (ps_set (i := 3) sc__law_due.nd rfl (by first | exact Or.inl rfl | exact Or.inr rfl) pe_dnewK)
  (pss_cons (ps_set (i := 4) sc__law_due.nd rfl (by first | exact Or.inl rfl | exact Or.inr rfl) (pe_lst pa_nil))
  (pss_cons (ps_for PassesOwn.never rfl (pi_list (pv 0)) (pg_tup rfl (pgs_cons (pg_name (i := 5) sc__law_due.nd rfl (by first | exact Or.inl rfl | exact Or.inr rfl)) (pgs_cons (pg_name (i := 6) sc__law_due.nd rfl (by first | exact Or.inl rfl | exact Or.inr rfl)) pgs_nil)))
  (pss_cons (ps_set (i := 7) sc__law_due.nd rfl (by first | exact Or.inl rfl | exact Or.inr rfl) (pe_lst pa_nil))
  (pss_cons (ps_for PassesOwn.never rfl (pi_list (pv 6)) (pg_name (i := 8) sc__law_due.nd rfl (by first | exact Or.inl rfl | exact Or.inr rfl))
  (pss_one (ps_if (pt_val (pe_callB call_isi (by rfl) B.isinstance (by decide +kernel) (pa_cons (pv 8) (pa_cons (pe_bltn (v := .ty "str") (by rfl) B.str (by decide +kernel) rfl) pa_nil))))
  (pss_cons (ps_if (pt_cmp (pc_dnotin hu (pv 8) (pv 3)) rfl)
  (pss_one (ps_dput hu (pv 3) (pv 8) (pe_ix ix_str pe_str (pe_callB call_lenD (by rfl) B.len PySem.boot_len (pa_cons (pv 3) pa_nil)) (fun _ _ => rfl)) rfl))
  pss_nil)
  (pss_one (ps_expr (pe_bm PySem.F.plainAttrs_list PySem.F.slot_list_append PySem.F.type_list_append mt_append (pv 7) (pa_cons (pe_dget hu (pv 3) (pv 8) (fun _ _ => rfl)) pa_nil)))))
  (pss_one (ps_expr (pe_bm PySem.F.plainAttrs_list PySem.F.slot_list_append PySem.F.type_list_append mt_append (pv 7) (pa_cons (pv 8) pa_nil)))))))
  (pss_one (ps_expr (pe_bm PySem.F.plainAttrs_list PySem.F.slot_list_append PySem.F.type_list_append mt_append (pv 4) (pa_cons (pe_tup (pa_cons (pv 5) (pa_cons (pe_callTy call_tuple_of (by rfl) B.tuple (by decide +kernel) (pa_cons (pv 7) pa_nil)) pa_nil))) pa_nil)))))))
  (pss_cons (ps_setLc (i := 7) (own := [("_law_symbol", 8)]) (g := gName 8) (by rfl) sc__law_due.nd rfl rfl (sw_true rfl rfl rfl (by decide +kernel)) (pi_list (pv 1)) (blkOk_by (own := [("_law_symbol", 8)]) (N := N__law_due) (sc := defScope s__law_due) (by decide +kernel)) (fun _ _ _ _ _ => (pg_name (i := 8) sc__law_due.nd rfl (by first | exact Or.inl rfl | exact Or.inr rfl))) (fun _ _ _ _ _ => pts_nil) (fun _ _ _ _ _ => (pe_ifExp (pt_val (pe_callB (r := rIsi K) call_isi (by rfl) B.isinstance (by decide +kernel) (pa_cons (pv 8) (pa_cons (pe_bltn (v := .ty "str") (by rfl) B.str (by decide +kernel) rfl) pa_nil)))) (pe_dget hu (pv 3) (pv 8) (fun _ _ => rfl)) (pv 8))))
  (pss_one (ps_ret (pe_tup (pa_cons (pe_callTy call_tuple_of (by rfl) B.tuple (by decide +kernel) (pa_cons (pv 4) pa_nil)) (pa_cons (pe_callTy call_tuple_of (by rfl) B.tuple (by decide +kernel) (pa_cons (pv 7) pa_nil)) (pa_cons (pe_callTy call_tuple_of (by rfl) B.tuple (by decide +kernel) (pa_cons (pe_callB (cr_sortedSI hr.units) (by rfl) B.sorted (by decide +kernel) (pa_cons (pe_lock (pe_lc (own := [("_law_name_here", 9)]) (g := gName 9) (by rfl) sc__law_due.nd (pi_keys (pv 2)) (blkOk_by (own := [("_law_name_here", 9)]) (N := N__law_due) (sc := defScope s__law_due) (by decide +kernel)) (fun _ _ _ _ _ => (pg_name (i := 9) sc__law_due.nd rfl (by first | exact Or.inl rfl | exact Or.inr rfl))) (fun _ _ _ _ _ => pts_nil) (fun _ _ _ _ _ => (pe_tup (pa_cons (pe_dget hu (pv 3) (pv 9) (fun _ _ => rfl)) (pa_cons (pe_dget hu (pv 2) (pv 9) (fun _ _ => rfl)) pa_nil)))))) pa_nil)) pa_nil)) pa_nil)))))))))), ?_⟩
    obtain ⟨⟨xs, hR, RX⟩, _, hG, _, hW, _, okp, okg, okw⟩ := RA
    have ok1 := okp.1
    have n24 := namesP_len okp
    have w24 := okw.len
    have el := RX.len
    intro D hD
    have k0 : Kp [] H (upd H D (.dK [])) := Kp.new hD
    refine ⟨by show 0 ≤ sizeLine; decide, fun M hM => ?_⟩
    have k1 := k0.snoc (o := .lst []) hM
    have MD : M ≠ D := fun z => by rw [z, upd_same] at hM; cases hM
    have hMH : H M = none := by rw [upd_ne MD] at hM; exact hM
    refine ⟨_, rfl, R, rfl, ⟨_, SqL.of (k1.at_ _ _ hR (fun z => nomatch z))⟩, ?_⟩
    refine for_it (walk_list (xs := xs)) (fun i σ H' => (∃ o5 o6 o7 o8, σ = [some (.ref R), some (.ref G), some (.ref W), some (.ref D), some (.ref M), o5, o6, o7, o8, none]) ∧ Kp [] H H' ∧ H' D = some (.dK (nmKv ((ps.take i).foldl addR []))) ∧ ∃ zs, H' M = some (.lst zs) ∧ zs.length = i ∧ ImAll H' 2 zs (((ps.take i).map (renR (namesP ps))).map dPR)) ⟨⟨_, _, _, _, rfl⟩, k1, by rw [upd_ne (Ne.symm MD)]; exact upd_same, [], upd_same, rfl, .nil⟩ (fun i σ H' _ h => SqL.of (h.2.1.at_ _ _ hR (fun z => nomatch z))) ?_ ?_
    · rintro i u σ H2 H3 hi ⟨⟨o5, o6, o7, o8, rfl⟩, k2, h2, zs, hz, lz, iz⟩ ⟨rfl, hu1⟩
      obtain ⟨a, b, r, rfl, er, ha, hb, _⟩ := (RX.kp k2).get hu1
      have okr := okp.2 r (List.mem_of_getElem? er)
      have i6 : i < 6 := by omega
      refine ⟨a, _, rfl, SqT.of ha, rfl, _, _, rfl, _, _, rfl, rfl, ?_⟩
      refine ⟨by show 0 ≤ sizeLine; decide, fun T hT => ?_⟩
      have k3 := k2.snoc (o := .lst []) hT
      have h3 : upd H3 T (.lst []) D = some (.dK (nmKv ((ps.take i).foldl addR []))) := (Kp.new (ms := []) hT).at_ _ _ h2 (fun z => nomatch z)
      have hz3 : upd H3 T (.lst []) M = some (.lst zs) := (Kp.new (ms := []) hT).at_ _ _ hz (fun z => nomatch z)
      have hb3 : upd H3 T (.lst []) b = some (.lst (r.2.map kV)) := (Kp.new (ms := []) hT).at_ _ _ hb (fun z => nomatch z)
      have iz3 := ImAll.kp (ms := []) (Kp.new (o := .lst []) hT) iz
      refine ⟨_, rfl, b, rfl, ⟨_, SqL.of hb3⟩, ?_⟩
      have TD : T ≠ D := fun z => by rw [z, h2] at hT; cases hT
      have TM : T ≠ M := fun z => by rw [z, hz] at hT; cases hT
      have Tb : T ≠ b := fun z => by rw [z, hb] at hT; cases hT
      have hTH : H T = none := k2.same.free hT
      refine for_it (walk_list (xs := r.2.map kV)) (fun j σ H' => (∃ o8, σ = [some (.ref R), some (.ref G), some (.ref W), some (.ref D), some (.ref M), some (.str r.1), some (.ref b), some (.ref T), o8, none]) ∧ Kp [] H H' ∧ H' D = some (.dK (nmKv ((r.2.take j).foldl addN ((ps.take i).foldl addR [])))) ∧ H' M = some (.lst zs) ∧ ImAll H' 2 zs (((ps.take i).map (renR (namesP ps))).map dPR) ∧ H' b = some (.lst (r.2.map kV)) ∧ H' T = some (.lst (((r.2.take j).map (ren (namesP ps))).map kV))) ⟨⟨_, rfl⟩, k3, h3, hz3, iz3, hb3, upd_same⟩ (fun j σ H' _ h => SqL.of h.2.2.2.2.2.1) ?_ ?_
      · rintro j u σ H4 H5 hj ⟨⟨o8, rfl⟩, k4, h4, hz4, iz4, hb4, hT4⟩ ⟨rfl, hu2⟩
        rw [List.getElem?_map] at hu2
        cases ey : r.2[j]? with
        | none => rw [ey] at hu2; cases hu2
        | some y =>
          rw [ey] at hu2
          cases hu2
          have pre := names_pre er (j + 1)
          rw [take_snoc ey, List.foldl_append] at pre ⊢
          rw [List.map_append, List.map_append]
          have l5 : ((r.2.take j).foldl addN ((ps.take i).foldl addR [])).length < 24 := by
            have a1 := foldN_len (r.2.take j) ((ps.take i).foldl addR [])
            have a2 := foldR_len (ps.take i) [] fun x hx => (okp.2 x (List.mem_of_mem_take hx)).2.2.1
            have j4 := (List.getElem?_eq_some_iff.mp ey).1
            have := okr.2.2.1
            have := List.length_take_le i ps
            have := List.length_take_le j r.2
            have : (List.take i ps).length = min i ps.length := List.length_take
            have : (List.take j r.2).length = min j r.2.length := List.length_take
            simp only [List.length_nil] at *
            omega
          have lT : (((r.2.take j).map (ren (namesP ps))).map kV).length ≤ 1000 := by
            rw [List.length_map, List.length_map]
            have := List.length_take_le j r.2
            have := okr.2.2.1
            have : (List.take j r.2).length = min j r.2.length := List.length_take
            omega
          generalize hms : (r.2.take j).foldl addN ((ps.take i).foldl addR []) = ms at h4 l5 pre
          refine ⟨_, rfl, _, _, _, _, _, rfl, .ty _, kV_ty, kit_ty (kb_key y), _, rfl, ?_⟩
          cases y with
          | inl iy =>
            refine iteF ⟨_, rfl, .inl ⟨rfl, _, SqL.of hT4⟩, _, rfl, T, _, _, rfl, rfl, hT4, small1000 lT, ?_⟩
            have kT : Kp [T] H5 (upd H5 T (.lst (((r.2.take j).map (ren (namesP ps))).map kV ++ [.int iy]))) := Kp.updL hT4 (by simp)
            exact ⟨⟨_, rfl⟩, k4.late hTH, kT.at_ _ _ h4 (by simpa using Ne.symm TD), kT.at_ _ _ hz4 (by simpa using Ne.symm TM), ImAll.kp kT iz4, kT.at_ _ _ hb4 (by simpa using Ne.symm Tb), upd_same⟩
          | inr sy =>
            refine iteT ⟨_, rfl, _, rfl, D, _, rfl, .inl ⟨_, .inr sy, .inl h4, rfl, rfl⟩, _, rfl, ?_⟩
            rw [valV_nm]
            by_cases hm : sy ∈ ms
            · rw [if_pos hm]
              have pre2 : ms <+: namesP ps := by
                have e : addN ms (.inr sy) = ms := by rw [addN_inr, if_pos hm]
                rw [← e]; exact pre
              have hv : valV (nmKv ms) (.inr sy) = some (kV (ren (namesP ps) (.inr sy))) := by
                rw [valV_nm, if_pos hm, ← ren_pre hm pre2, ren_inr, if_pos hm]; rfl
              refine iteF ⟨_, rfl, .inl ⟨rfl, _, SqL.of hT4⟩, _, rfl, _, rfl, D, _, rfl, .inl ⟨_, .inr sy, .inl h4, rfl, hv.symm⟩, T, _, _, rfl, rfl, hT4, small1000 lT, ?_⟩
              have kT : Kp [T] H5 (upd H5 T (.lst (((r.2.take j).map (ren (namesP ps))).map kV ++ [kV (ren (namesP ps) (.inr sy))]))) := Kp.updL hT4 (by simp)
              refine ⟨⟨_, rfl⟩, k4.late hTH, ?_, kT.at_ _ _ hz4 (by simpa using Ne.symm TM), ImAll.kp kT iz4, kT.at_ _ _ hb4 (by simpa using Ne.symm Tb), upd_same⟩
              show _ = some (HO.dK (nmKv (addN ms (.inr sy))))
              rw [addN_inr, if_pos hm]
              exact kT.at_ _ _ h4 (by simpa using Ne.symm TD)
            · rw [if_neg hm]
              have e : addN ms (.inr sy) = ms ++ [sy] := by rw [addN_inr, if_neg hm]
              have pre2 : ms ++ [sy] <+: namesP ps := by rw [← e]; exact pre
              have hm2 : sy ∈ ms ++ [sy] := List.mem_append_right _ List.mem_cons_self
              have hv : valV (nmKv (ms ++ [sy])) (.inr sy) = some (kV (ren (namesP ps) (.inr sy))) := by
                rw [valV_nm, if_pos hm2, ← ren_pre hm2 pre2, ren_inr, if_pos hm2]; rfl
              refine iteT ?_
              refine ⟨_, rfl, D, _, rfl, h4, abx, _, _, rfl, rfl, by rw [abx_len]; decide, abx_ix (by omega) (by rw [nmKv_len]; omega), _, rfl, _, rfl, D, _, rfl, .inl ⟨_, .inr sy, h4, rfl, by rw [nmKv_len]; exact small1000 (by omega), rfl⟩, ?_⟩
              rw [putK_new _ (by rw [valV_nm, if_neg hm])]
              have e2 : nmKv ms ++ [((.inr sy : Key), V.str ⟨#[97 + (((nmKv ms).length : Nat) : Int).toNat]⟩)] = nmKv (ms ++ [sy]) := by rw [nmKv_snoc, nmKv_len, Int.toNat_natCast]; rfl
              rw [e2]
              generalize h6 : upd H5 D (.dK (nmKv (ms ++ [sy]))) = H6
              have kD : Kp [D] H5 H6 := h6 ▸ Kp.set h4 (fun _ z => by cases z) (by simp)
              have hD6 : H6 D = some (.dK (nmKv (ms ++ [sy]))) := by rw [← h6]; exact upd_same
              have hT6 := kD.at_ _ _ hT4 (by simpa using TD)
              refine ⟨_, rfl, .inl ⟨rfl, _, SqL.of hT6⟩, _, rfl, _, rfl, D, _, rfl, .inl ⟨_, .inr sy, .inl hD6, rfl, hv.symm⟩, T, _, _, rfl, rfl, hT6, small1000 lT, ?_⟩
              have kT : Kp [T] H6 (upd H6 T (.lst (((r.2.take j).map (ren (namesP ps))).map kV ++ [kV (ren (namesP ps) (.inr sy))]))) := Kp.updL hT6 (by simp)
              have k46 : Kp [] H H6 := h6 ▸ k4.late hD
              refine ⟨⟨_, rfl⟩, k46.late hTH, ?_, kT.at_ _ _ (kD.at_ _ _ hz4 (by simpa using MD)) (by simpa using Ne.symm TM), ImAll.kp kT (ImAll.kp kD iz4), kT.at_ _ _ (kD.at_ _ _ hb4 ?_) (by simpa using Ne.symm Tb), upd_same⟩
              · show _ = some (HO.dK (nmKv (addN ms (.inr sy))))
                rw [e]
                exact kT.at_ _ _ hD6 (by simpa using Ne.symm TD)
              · intro z
                have z : b = D := by simpa using z
                rw [z, h4] at hb4; cases hb4
      · rintro σ H4 ⟨⟨o8, rfl⟩, k4, h4, hz4, iz4, hb4, hT4⟩
        rw [List.length_map, List.take_length] at h4 hT4
        refine ⟨_, rfl, .inl ⟨rfl, _, SqL.of hz4⟩, _, rfl, _, rfl, T, _, rfl, .inl ⟨SqL.of hT4, fun l hl => ⟨by show 2 ≤ sizeLine; decide, fun t ht => ?_⟩⟩⟩
        have k5 := (Kp.new (ms := []) (o := .tup ((r.2.map (ren (namesP ps))).map kV)) hl).snoc (o := .tup [.str r.1, .ref l]) ht
        have hz5 := k5.at_ _ _ hz4 (fun z => nomatch z)
        refine ⟨M, _, _, rfl, rfl, hz5, by rw [lz]; exact small1000 (by omega), ?_⟩
        have kM : Kp [M] (upd (upd H4 l (.tup ((r.2.map (ren (namesP ps))).map kV))) t (.tup [.str r.1, .ref l])) (upd (upd (upd H4 l (.tup ((r.2.map (ren (namesP ps))).map kV))) t (.tup [.str r.1, .ref l])) M (.lst (zs ++ [.ref t]))) := Kp.updL hz5 (by simp)
        have hl7 := kM.tp _ _ ((Kp.new (ms := []) ht).tp _ _ (upd_same (H := H4) (a := l)))
        have ht7 := kM.tp _ _ (upd_same (H := upd H4 l (.tup ((r.2.map (ren (namesP ps))).map kV))) (a := t))
        refine ⟨⟨_, _, _, _, rfl⟩, (k4.trans k5).late hMH, ?_, zs ++ [.ref t], upd_same, by simp [lz], ?_⟩
        · rw [take_snoc er, List.foldl_append]
          exact kM.at_ _ _ (k5.at_ _ _ h4 (fun z => nomatch z)) (by simpa using Ne.symm MD)
        · rw [take_snoc er, List.map_append, List.map_append]
          refine (ImAll.kp (k5.zero.trans kM) iz4).append (.cons ?_ .nil)
          refine .tup ht7 ⟨by show 2 ≤ 1000000; decide, ⟨_, ht7⟩⟩ (.cons (.str _ (by have := okr.1.2.1; omega)) (.cons (.tup hl7 ⟨by rw [List.length_map, List.length_map]; omega, ⟨_, hl7⟩⟩ (dt_syms fun y hy => ?_)) .nil))
          obtain ⟨y0, hy0, rfl⟩ := List.mem_map.mp hy
          exact ren_ok (okr.2.2.2 y0 hy0)
    · rintro σ H2 ⟨⟨o5, o6, o7, o8, rfl⟩, k2, h2, zs, hz, lz, iz⟩
      rw [el, List.take_length] at h2 iz
      have h2 : H2 D = some (.dK (nmKv (namesP ps))) := h2
      have hG2 := k2.at_ _ _ hG (fun z => nomatch z)
      have hW2 := k2.at_ _ _ hW (fun z => nomatch z)
      have l3 := okg.1
      refine ⟨_, rfl, G, rfl, ⟨_, SqL.of hG2⟩, fun L hL => ?_⟩
      refine lc_it (walk_list (xs := g.map kV)) (fun j H' => H' L = some (.lst (((g.take j).map (ren (namesP ps))).map kV)) ∧ Kp [] H2 H') ⟨upd_same, Kp.new hL⟩ (fun j H' _ h => SqL.of (h.2.at_ _ _ hG2 (fun z => nomatch z))) (fun j u H3 H4 hj h3 hy => ?_) (fun H3 h3 => ?_)
      · obtain ⟨h3, k3⟩ := h3
        obtain ⟨rfl, hu2⟩ := hy
        rw [List.getElem?_map] at hu2
        cases ey : g[j]? with
        | none => rw [ey] at hu2; cases hu2
        | some y =>
          rw [ey] at hu2
          cases hu2
          have lg : (((g.take j).map (ren (namesP ps))).map kV).length < sizeLine := by
            rw [List.length_map, List.length_map]
            have : (List.take j g).length = min j g.length := List.length_take
            exact small1000 (by omega)
          refine ⟨rfl, _, rfl, _, _, _, _, _, rfl, .ty _, kV_ty, kit_ty (kb_key y), _, rfl, ?_⟩
          cases y with
          | inl iy =>
            refine iteF ⟨_, rfl, _, h3, lg, ?_, k3.late hL⟩
            rw [upd_same, take_snoc ey, List.map_append, List.map_append]; rfl
          | inr sy =>
            have hm := okg.2.2 sy (List.mem_of_getElem? ey)
            have hv : valV (nmKv (namesP ps)) (.inr sy) = some (kV (ren (namesP ps) (.inr sy))) := by
              rw [valV_nm, if_pos hm, ren_inr, if_pos hm]; rfl
            refine iteT ⟨_, rfl, _, rfl, D, _, rfl, .inl ⟨_, .inr sy, .inl (k3.at_ _ _ h2 (fun z => nomatch z)), rfl, hv.symm⟩, _, h3, lg, ?_, k3.late hL⟩
            rw [upd_same, take_snoc ey, List.map_append, List.map_append]; rfl
      · obtain ⟨h3, k3⟩ := h3
        rw [List.length_map, List.take_length] at h3
        have hz3 := k3.at_ _ _ hz (fun z => nomatch z)
        have hD3 := k3.at_ _ _ h2 (fun z => nomatch z)
        have hW3 := k3.at_ _ _ hW2 (fun z => nomatch z)
        refine ⟨_, rfl, M, _, rfl, .inl ⟨SqL.of hz3, fun l1 hl1 => ?_⟩⟩
        have h3' := (Kp.new (ms := []) (o := .tup zs) hl1).at_ _ _ h3 (fun z => nomatch z)
        refine ⟨_, rfl, L, _, rfl, .inl ⟨SqL.of h3', fun l2 hl2 => ?_⟩⟩
        generalize h5 : upd (upd H3 l1 (.tup zs)) l2 (.tup ((g.map (ren (namesP ps))).map kV)) = H5
        have k35 : Kp [] H3 H5 := h5 ▸ (Kp.new hl1).snoc hl2
        have e1 : H5 l1 = some (.tup zs) := by
          have := (Kp.new (ms := []) (o := .tup ((g.map (ren (namesP ps))).map kV)) hl2).tp _ _ (upd_same (H := H3) (a := l1) (o := .tup zs))
          rw [h5] at this; exact this
        have e2 : H5 l2 = some (.tup ((g.map (ren (namesP ps))).map kV)) := by rw [← h5]; exact upd_same
        have hW5 := k35.at_ _ _ hW3 (fun z => nomatch z)
        have hD5 := k35.at_ _ _ hD3 (fun z => nomatch z)
        refine ⟨W, _, hW5, trivial, fun od => ?_⟩
        have sl : Sm H5 (upd H5 W (.frz od (.dK (pwKv pw)))) := Sm.lock hW5 (fun _ _ z => by cases z) (fun _ z => by cases z)
        have rD := sl.rd (.inl hD5)
        refine ⟨_, rfl, W, od, rfl, .inl ⟨pwKv pw, upd_same, fun L2 hL2 => ?_⟩⟩
        refine lc_it (walk_keys (kvs := pwKv pw)) (fun j H' => ∃ zs, H' L2 = some (.lst zs) ∧ PowAll H' zs ((pw.take j).map (nmPw (namesP ps))) ∧ zs.length = j ∧ Kp [] (upd H5 W (.frz od (.dK (pwKv pw)))) H') ⟨[], upd_same, .nil, rfl, Kp.new hL2⟩ (fun j H' _ h => let ⟨_, _, _, _, kq⟩ := h; kq.at_ _ _ upd_same (fun z => nomatch z)) (fun j xk H9 H10 hj h9 hy => ?_) (fun H9 h9 => ?_)
        · obtain ⟨zs, hz, pz, lz, k9⟩ := h9
          obtain ⟨rfl, kk, vv, hk, rfl⟩ := hy
          obtain ⟨e, he, rfl, rfl, hv⟩ := pwKv_at okw.1 hk
          have pin := (okw.2 e (List.mem_of_getElem? he)).1
          have rD9 := k9.rd (fun z => nomatch z) rD
          have rW9 : Rd H10 W (.dK (pwKv pw)) := k9.rd (fun z => nomatch z) (.inr ⟨od, upd_same⟩)
          refine ⟨rfl, _, rfl, _, rfl, D, _, rfl, .inl ⟨_, .inr e.1, rD9, rfl, by rw [valV_nm, if_pos pin]⟩, _, rfl, _, rfl, W, _, rfl, .inl ⟨_, .inr e.1, rW9, rfl, hv.symm⟩, by show 2 ≤ sizeLine; decide, fun t ht => ?_⟩
          have hzt : upd H10 t (.tup [.str (ltr ((namesP ps).idxOf e.1)), .int e.2]) L2 = some (.lst zs) := (Kp.new (ms := []) ht).at_ _ _ hz (fun z => nomatch z)
          refine ⟨zs, hzt, ?_, zs ++ [.ref t], upd_same, ?_, by simp [lz], (k9.snoc ht).late hL2⟩
          · rw [lz]
            rw [show (pwKv pw).length = pw.length from List.length_map ..] at hj
            exact small1000 (by omega)
          · rw [take_snoc he, List.map_append]
            have kL : Kp [L2] (upd H10 t (.tup [.str (ltr ((namesP ps).idxOf e.1)), .int e.2])) (upd (upd H10 t (.tup [.str (ltr ((namesP ps).idxOf e.1)), .int e.2])) L2 (.lst (zs ++ [.ref t]))) := Kp.updL hzt (by simp)
            have ht7 := kL.tp _ _ (upd_same (H := H10) (a := t))
            exact (pz.kp ((Kp.new (ms := [L2]) ht).trans kL)).snoc (p := nmPw (namesP ps) e) ⟨t, rfl, ht7⟩
        · obtain ⟨ws, hw, pz, lw, k9⟩ := h9
          rw [show (pwKv pw).length = pw.length from List.length_map .., List.take_length] at pz
          refine ⟨k9.at_ _ _ upd_same (fun z => nomatch z), ?_⟩
          have L2W : L2 ≠ W := fun z => by rw [z, upd_same] at hL2; cases hL2
          have k59 : Kp [] H5 (upd H9 W (.dK (pwKv pw))) := Kp.unlock hW5 k9
          have hW9 := k9.at_ _ _ upd_same (fun z => nomatch z)
          have pz' : PowAll (upd H9 W (.dK (pwKv pw))) ws (pw.map (nmPw (namesP ps))) := pz.kp (ms := [W]) (Kp.set hW9 (fun _ z => by cases z) (by simp))
          refine ⟨L2, ws, _, rfl, SqL.of (by rw [upd_ne L2W]; exact hw), pz', fun dd ys hdd hys => ?_⟩
          refine ⟨dd, ys, rfl, .inl ⟨SqL.of upd_same, fun tt htt => ⟨by show 3 ≤ sizeLine; decide, fun q hq => ?_⟩⟩⟩
          generalize h10 : upd (upd H9 W (.dK (pwKv pw))) dd (.lst ys) = H10 at htt hq ⊢
          have kd : Kp [] (upd H9 W (.dK (pwKv pw))) H10 := h10 ▸ Kp.new hdd
          have kf : Kp [] H10 (upd (upd H10 tt (.tup ys)) q (.tup [.ref l1, .ref l2, .ref tt])) := (Kp.new htt).snoc hq
          have kdf := kd.trans kf
          have k5f := k59.trans kdf
          have ly := hys.len
          rw [srt_len, List.length_map] at ly
          have f1 := k5f.tp _ _ e1
          have f2 := k5f.tp _ _ e2
          have f3 := (Kp.new (ms := []) (o := .tup [.ref l1, .ref l2, .ref tt]) hq).tp _ _ (upd_same (H := H10) (a := tt) (o := .tup ys))
          refine k _ _ ((k2.trans (k3.trans k35)).trans k5f) ?_
          have iz5 := ImAll.kp ((k3.trans k35).trans k5f) iz
          refine .tup upd_same ⟨by show 3 ≤ 1000000; decide, ⟨_, upd_same⟩⟩ (.cons (.tup f1 ⟨by omega, ⟨_, f1⟩⟩ iz5) (.cons (.tup f2 ⟨by rw [List.length_map, List.length_map]; omega, ⟨_, f2⟩⟩ (dt_syms fun y hy => ?_)) (.cons (.tup f3 ⟨by omega, ⟨_, f3⟩⟩ ((hys.kp kdf).im fun e he => ?_)) .nil)))
          · obtain ⟨y0, hy0, rfl⟩ := List.mem_map.mp hy
            exact ren_ok (okg.2.1 y0 hy0)
          · obtain ⟨e0, _, rfl⟩ := List.mem_map.mp (srt_mem.mp he)
            show (ltr _).length ≤ 1000000
            unfold ltr; show 1 ≤ 1000000; decide
end
end Fm

namespace Fm
open PySem PySem.Spec PyProof.Rows L2
def spValue : Sp := fun vs H Q _ => ∃ (b c : Addr), vs = [.ref b] ∧ Bag H b c ∧ ∀ (v : Int) H', InV v → Bag H' b c → Kp [b] H H' → Q (.int v) H'
/-! ### the pool of odd strings -/
def txA : List Str := ["b", "a", "", "x y", "aa", "Z", "0", "u1", "c", "-1", "d", "unknown", "A b", "~", "z", "e", "12", "row"]
def txB : List Str := ["group", " ", "f", "ab", "ba", "x", "y", "('a',)", "None", "k", "l"]
def txs : List Str := txA ++ txB
theorem txs_len : txs.length = 29 := by decide +kernel
theorem txs_nd : txs.Nodup := by decide +kernel
theorem txs_short : ∀ t ∈ txs, t.length ≤ 100 := by decide +kernel
theorem txs_ok : ∀ t ∈ txs, PyData.strOk t = true := by decide +kernel
theorem step29 : ∀ a : Fin 29, ∀ d : Fin 29, a.1 ≠ 0 → d.1 ≠ 0 → (a.1 * d.1) % 29 ≠ 0 := by decide +kernel
def polK (f st k : Nat) : Nat := (f + st * k) % 29
theorem polK_lt (f st k : Nat) : polK f st k < 29 := Nat.mod_lt _ (by decide)
theorem polK_inj {f st j k : Nat} (h1 : 1 ≤ st) (h2 : st < 29) (hj : j < 29) (hk : k < 29) (h : polK f st j = polK f st k) : j = k := by
  have key : ∀ {j k : Nat}, j < k → k < 29 → polK f st j = polK f st k → False := fun {j k} hjk hk h => by
    have e : st * k = st * j + st * (k - j) := by rw [← Nat.mul_add]; congr 1; omega
    have z := step29 ⟨st, h2⟩ ⟨k - j, by omega⟩ (by show st ≠ 0; omega) (by show k - j ≠ 0; omega)
    unfold polK at h
    rw [e] at h
    have z : st * (k - j) % 29 ≠ 0 := z
    generalize st * (k - j) = c at *
    generalize st * j = a at *
    omega
  rcases Nat.lt_trichotomy j k with q | q | q
  · exact (key q hk h).elim
  · exact q
  · exact (key q hj h.symm).elim
def pol (f st : Nat) : List Str := (List.range 29).map fun k => txs[polK f st k]!
theorem txs_get {i : Nat} (h : i < 29) : txs[i]? = some (txs[i]!) := by
  have : i < txs.length := by rw [txs_len]; exact h
  rw [List.getElem?_eq_getElem this, getElem!_pos txs i this]
theorem pol_len (f st : Nat) : (pol f st).length = 29 := by unfold pol; rw [List.length_map, List.length_range]
theorem pol_mem {f st : Nat} {t : Str} (h : t ∈ pol f st) : t ∈ txs := by
  obtain ⟨k, _, rfl⟩ := List.mem_map.mp h
  exact List.mem_of_getElem? (txs_get (polK_lt f st k))
theorem pol_nd {f st : Nat} (h1 : 1 ≤ st) (h2 : st < 29) : (pol f st).Nodup := by
  unfold pol
  refine List.pairwise_map.mpr ?_
  refine (List.nodup_range (n := 29)).imp_of_mem fun {j k} hj hk hne e => hne ?_
  have hj := List.mem_range.mp hj
  have hk := List.mem_range.mp hk
  refine polK_inj (f := f) h1 h2 hj hk ?_
  have a := txs_get (polK_lt f st j)
  have b := txs_get (polK_lt f st k)
  obtain ⟨a1, a2⟩ := List.getElem?_eq_some_iff.mp a
  obtain ⟨b1, b2⟩ := List.getElem?_eq_some_iff.mp b
  exact nodup_at txs_nd a1 b1 (by rw [a2, b2]; exact e)
def Pool (us : List Str) : Prop := us.length = 29 ∧ us.Nodup ∧ ∀ t ∈ us, t ∈ txs
def spPool : Sp := fun vs H Q _ => ∃ (b c : Addr), vs = [.ref b] ∧ Bag H b c ∧ ∀ (L : Addr) (us : List Str) H', Pool us → Bag H' b c → Kp [b] H H' → H L = none → H' L = some (.lst (us.map V.str)) → Q (.ref L) H'
section
variable {P : Program} {w : World} {K : PySem.W.Frag} {mg : Str → Option Value} {base : Heap}
theorem ok_value (B : Bi mg) (D : Dfn K mg "_law_value" s__law_value ["_law_bag_here"]) (G_pick : Has P w K mg base CX0 "_law_pick" ["_law_bag_here", "_law_many"] 1 spPick) : Has P w K mg base CX0 "_law_value" ["_law_bag_here"] 2 spValue := by
  refine D.has sc__law_value (fun vs H Q E h => ?_) (fun f cdv A outer s H vs Q E hr h => ?_)
  · obtain ⟨b, c, rfl, _⟩ := h; rfl
  · obtain ⟨b, c, rfl, BG, k⟩ := h
    refine ⟨_, (pss_cons (ps_if (pt_cmpR op_eq (pe_has G_pick (hr.mono (by omega)) (pa_cons (pv 0) (pa_cons pe_int pa_nil))) pe_int (nomark _))
  (pss_cons (ps_set (i := 1) sc__law_value.nd rfl (by first | exact Or.inl rfl | exact Or.inr rfl) (pe_op op_mul (pe_has G_pick (hr.mono (by omega)) (pa_cons (pv 0) (pa_cons pe_int pa_nil))) pe_int))
  (pss_one (ps_ret (pe_op op_sub (pe_op op_mod (pe_callTy call_int1 (by rfl) B.int (by decide +kernel) (pa_cons (pe_op op_add (pv 1) (pe_has G_pick (hr.mono (by omega)) (pa_cons (pv 0) (pa_cons pe_int pa_nil)))) pa_nil)) (pe_op op_add (pe_op op_mul pe_int (pe_op op_pow pe_int pe_int)) pe_int)) (pe_op op_pow pe_int pe_int)))))
  pss_nil)
  (pss_one (ps_ret (pe_op op_sub (pe_has G_pick (hr.mono (by omega)) (pa_cons (pv 0) (pa_cons pe_int pa_nil))) pe_int)))), ?_⟩
    refine ⟨_, rfl, b, c, 8, rfl, BG, by decide, by decide, fun r H1 r0 r1 B1 k1 => ⟨rfl, _, rfl, ?_⟩⟩
    refine ite2 (fun _ => ?_) (fun _ => ?_)
    · refine ⟨_, rfl, b, c, 44722, rfl, B1, by decide, by decide, fun r2 H2 r20 r21 B2 k2 => ⟨_, _, rfl, rfl, .inr ⟨by decide, by decide⟩, ?_⟩⟩
      refine ⟨_, rfl, _, rfl, b, c, 44722, rfl, B2, by decide, by decide, fun r3 H3 r30 r31 B3 k3 => ⟨_, _, rfl, rfl, .inl ⟨_, rfl, ?_⟩⟩⟩
      refine ⟨_, _, rfl, rfl, ⟨by decide, by decide, by decide⟩, _, _, rfl, rfl, .inl ⟨by decide, by decide⟩, _, _, rfl, rfl, _, _, rfl, rfl, ?_, _, _, rfl, rfl, ⟨by decide, by decide, by decide⟩, _, _, rfl, rfl, ?_⟩
      · show (0 : Int) < 2 * 10 ^ Int.toNat 9 + 1
        decide
      · refine k _ _ ?_ B3 ((k1.trans k2).trans k3)
        have e : (10 : Int) ^ Int.toNat 9 = 1000000000 := by decide
        have e0 := Int.emod_nonneg (r2 * 44722 + r3) (show (2 * 10 ^ Int.toNat 9 + 1 : Int) ≠ 0 by decide)
        have e1 := Int.emod_lt_of_pos (r2 * 44722 + r3) (show (0 : Int) < 2 * 10 ^ Int.toNat 9 + 1 by decide)
        rw [e] at e0 e1 ⊢
        exact ⟨by omega, by omega⟩
    · refine ⟨_, rfl, b, c, 5, rfl, B1, by decide, by decide, fun r2 H2 r20 r21 B2 k2 => ⟨_, _, rfl, rfl, ?_⟩⟩
      exact k _ _ ⟨by omega, by omega⟩ B2 (k1.trans k2)
theorem ok_pool (B : Bi mg) (D : Dfn K mg "_law_pool" s__law_pool ["_law_bag_here"]) (G_pick : Has P w K mg base CX0 "_law_pick" ["_law_bag_here", "_law_many"] 1 spPick) : Has P w K mg base CX0 "_law_pool" ["_law_bag_here"] 2 spPool := by
  refine D.has sc__law_pool (fun vs H Q E h => ?_) (fun f cdv A outer s H vs Q E hr h => ?_)
  · obtain ⟨b, c, rfl, _⟩ := h; rfl
  · obtain ⟨b, c, rfl, BG, k⟩ := h
    have hu := hu_of hr
    refine ⟨_, (pss_cons (ps_set (i := 1) sc__law_pool.nd rfl (by first | exact Or.inl rfl | exact Or.inr rfl) (pe_lst (pa_cons pe_str (pa_cons pe_str (pa_cons pe_str (pa_cons pe_str (pa_cons pe_str (pa_cons pe_str (pa_cons pe_str (pa_cons pe_str (pa_cons pe_str (pa_cons pe_str (pa_cons pe_str (pa_cons pe_str (pa_cons pe_str (pa_cons pe_str (pa_cons pe_str (pa_cons pe_str (pa_cons pe_str (pa_cons pe_str pa_nil))))))))))))))))))))
  (pss_cons (ps_set (i := 1) sc__law_pool.nd rfl (by first | exact Or.inl rfl | exact Or.inr rfl) (pe_op op_cat (pv 1) (pe_lst (pa_cons pe_str (pa_cons pe_str (pa_cons pe_str (pa_cons pe_str (pa_cons pe_str (pa_cons pe_str (pa_cons pe_str (pa_cons pe_str (pa_cons pe_str (pa_cons pe_str (pa_cons pe_str pa_nil))))))))))))))
  (pss_cons (ps_set (i := 2) sc__law_pool.nd rfl (by first | exact Or.inl rfl | exact Or.inr rfl) (pe_has G_pick (hr.mono (by omega)) (pa_cons (pv 0) (pa_cons pe_int pa_nil))))
  (pss_cons (ps_set (i := 3) sc__law_pool.nd rfl (by first | exact Or.inl rfl | exact Or.inr rfl) (pe_op op_add pe_int (pe_has G_pick (hr.mono (by omega)) (pa_cons (pv 0) (pa_cons pe_int pa_nil)))))
  (pss_one (ps_ret (pe_lc (own := [("_law_k", 4)]) (g := gName 4) (by rfl) sc__law_pool.nd (pi_range1 rfl B.range (pa_cons pe_int pa_nil)) (blkOk_by (own := [("_law_k", 4)]) (N := N__law_pool) (sc := defScope s__law_pool) (by decide +kernel)) (fun _ _ _ _ _ => (pg_name (i := 4) sc__law_pool.nd rfl (by first | exact Or.inl rfl | exact Or.inr rfl))) (fun _ _ _ _ _ => pts_nil) (fun _ _ _ _ _ => (pe_ix (r := rIxL K) ix_list (pv 1) (pe_op op_mod (pe_op op_add (pv 2) (pe_op op_mul (pv 3) (pv 4))) pe_int) (fun _ _ => rfl)))))))))), ?_⟩
    refine ⟨by show 18 ≤ sizeLine; decide, fun p1 n1 => ?_⟩
    have h1 : upd H p1 (.lst (txA.map V.str)) p1 = some (.lst (txA.map V.str)) := upd_same
    refine ⟨_, rfl, by show 11 ≤ sizeLine; decide, fun p2 n2 => ?_⟩
    have h12 : upd (upd H p1 (.lst (txA.map V.str))) p2 (.lst (txB.map V.str)) p1 = some (.lst (txA.map V.str)) := (Kp.new (ms := []) n2).at_ _ _ h1 (fun z => nomatch z)
    refine ⟨p1, p2, txA.map V.str, txB.map V.str, rfl, rfl, h12, upd_same, by show 29 ≤ sizeLine; decide, fun p3 n3 => ?_⟩
    rw [← List.map_append]
    have hf3 : H p3 = none := ((Kp.new (ms := []) n1).snoc (o := .lst (txB.map V.str)) n2).same.free n3
    have p3b : p3 ∉ [b] := fun z => by
      have z : p3 = b := by simpa using z
      obtain ⟨o, ho⟩ := BG.someB
      rw [← z, hf3] at ho; cases ho
    refine ⟨_, rfl, b, c, 29, rfl, BG.keep0 (((Kp.new n1).snoc n2).snoc n3), by decide, by decide, fun r1 H4 r10 r11 B4 k4 => ?_⟩
    refine ⟨_, rfl, b, c, 28, rfl, B4, by decide, by decide, fun r2 H5 r20 r21 B5 k5 => ⟨_, _, rfl, rfl, ?_⟩⟩
    have hp5 : H5 p3 = some (.lst (txs.map V.str)) := (k4.trans k5).at_ _ _ upd_same p3b
    have k15 : Kp [b] H H5 := ((((Kp.new n1).snoc n2).snoc n3).trans k4).trans k5
    refine ⟨29, rfl, by decide, by decide, fun D hD => ?_⟩
    have Db : D ∉ [b] := fun z => by
      have z : D = b := by simpa using z
      obtain ⟨o, ho⟩ := B5.someB
      rw [← z, hD] at ho; cases ho
    have Dc : D ≠ c := (B5.new hD).2
    have hDH : H D = none := by
      cases e : H D with
      | none => rfl
      | some o => rw [k15.at_ D o e Db] at hD; cases hD
    refine lc_range (lo := 0) (n := Int.toNat 29) (fun i H' => H' D = some (.lst (((pol r1.toNat (1 + r2).toNat).take i).map V.str)) ∧ Bag H' b c ∧ Kp [b] H H' ∧ H' p3 = some (.lst (txs.map V.str))) ⟨upd_same, B5.keep0 (Kp.new hD), k15.snoc hD, (Kp.new (ms := []) hD).at_ _ _ hp5 (fun z => nomatch z)⟩ ?_ ?_
    · rintro i H6 hi ⟨h6, B6, k6, hp6⟩
      have hi : i < 29 := hi
      have ep : (pol r1.toNat (1 + r2).toNat)[i]? = some (txs[polK r1.toNat (1 + r2).toNat i]!) := by
        unfold pol
        rw [List.getElem?_map, List.getElem?_range hi]; rfl
      have ec : ((r1 + (1 + r2) * (0 + (i : Int))) % 29 : Int) = ((polK r1.toNat (1 + r2).toNat i : Nat) : Int) := by
        have e1 : ((r1.toNat : Nat) : Int) = r1 := Int.toNat_of_nonneg r10
        have e2 : (((1 + r2).toNat : Nat) : Int) = 1 + r2 := Int.toNat_of_nonneg (by omega)
        unfold polK
        rw [Int.natCast_emod, Int.natCast_add, Int.natCast_mul, e1, e2, Int.zero_add]; rfl
      refine ⟨rfl, _, rfl, _, rfl, _, rfl, _, rfl, _, _, rfl, rfl, ?_, _, _, rfl, rfl, _, _, rfl, rfl, by show (0 : Int) < 29; decide, ?_⟩
      · have e : (2 : Int) ^ 64 = 18446744073709551616 := by decide
        exact .inl ⟨by rw [e]; omega, by rw [e]; omega⟩
      refine ⟨p3, _, _, _, rfl, rfl, SqL.of hp6, ec ▸ atI_nat (x := V.str (txs[polK r1.toNat (1 + r2).toNat i]!)) (by rw [List.getElem?_map, txs_get (polK_lt _ _ _)]; rfl), _, h6, ?_, ?_, B6.keep (ms := [D]) (Kp.updL h6 (by simp)) (by simpa using fun z => Db (by simp [z])) (by simpa using Ne.symm Dc), k6.late hDH, ?_⟩
      · rw [List.length_map]
        have : ((pol r1.toNat (1 + r2).toNat).take i).length = min i _ := List.length_take
        exact small1000 (by omega)
      · rw [upd_same, take_snoc ep, List.map_append]; rfl
      · rw [upd_ne (ne_of_none hp5 hD)]; exact hp6
    · rintro H6 ⟨h6, B6, k6, hp6⟩
      rw [show Int.toNat 29 = (pol r1.toNat (1 + r2).toNat).length from (pol_len _ _).symm, List.take_length] at h6
      exact k D _ H6 ⟨pol_len _ _, pol_nd (by omega) (by omega), fun t ht => pol_mem ht⟩ B6 k6 hDH h6
end
end Fm

namespace Fm
open PySem PySem.Spec PyProof.Rows L2
/-! ### the drawn pattern -/
theorem RawAll.new {ms : List Addr} {H : Hp} {S : Addr} (hS : H S = none) : ∀ {xs : List V} {ps : List (Str × List Key)}, RawAll ms H xs ps → RawAll (S :: ms) H xs ps
  | _, _, .nil => .nil
  | _, _, .cons a b c d => .cons a b (fun z => by
      rcases List.mem_cons.mp z with rfl | z
      · rw [hS] at b; cases b
      · exact c z) (d.new hS)
theorem tab_in {H : Hp} {n : Nat} {xs : List V} {tbs : List (Str × List Str)} {i : Nat} {u : V} (ix : ImAll H n xs (tbs.map dTab)) (hu : xs[i]? = some u) : ∃ a b t, u = .ref a ∧ tbs[i]? = some t ∧ H a = some (.tup [.str t.1, .ref b]) ∧ H b = some (.tup (t.2.map V.str)) := by
  obtain ⟨du, hdu, dt⟩ := ix.getV hu
  rw [List.getElem?_map] at hdu
  cases et : tbs[i]? with
  | none => rw [et] at hdu; cases hdu
  | some tt =>
    rw [et] at hdu
    cases hdu
    cases dt with
    | tup ra la aa =>
      cases aa with
      | cons a1 a2 =>
        cases a1
        cases a2 with
        | cons a3 a4 =>
          cases a4
          cases a3 with
          | tup rb lb ab => exact ⟨_, _, tt, rfl, rfl, ra, by rw [rb, DtAll.strs ab]⟩
structure PSt (b c t R U p : Addr) (xs : List V) (tbs : List (Str × List Str)) (pl : List Str) (zs : List V) (ps : List (Str × List Key)) (us : List Str) (H : Hp) (ms : List Addr) (H' : Hp) : Prop where
  bag : Bag H' b c
  kp : Kp [b] H H'
  ht : H' t = some (.lst xs)
  ix : ImAll H' 2 xs (tbs.map dTab)
  hR : H' R = some (.lst zs)
  hU : H' U = some (.lst (us.map V.str))
  hp : H' p = some (.lst (pl.map V.str))
  raw : RawAll ms H' zs ps
section
variable {b c t R U p : Addr} {xs : List V} {tbs : List (Str × List Str)} {pl : List Str} {zs : List V} {ps : List (Str × List Key)} {us : List Str} {H : Hp} {ms : List Addr} {H' H'' : Hp}
theorem PSt.draw (h : PSt b c t R U p xs tbs pl zs ps us H ms H') (B : Bag H'' b c) (k : Kp [b] H' H'') (hb : b ∈ ms) (n1 : t ≠ b) (n2 : R ≠ b) (n3 : U ≠ b) (n4 : p ≠ b) : PSt b c t R U p xs tbs pl zs ps us H ms H'' :=
  ⟨B, h.kp.trans k, k.at_ _ _ h.ht (by simpa using n1), ImAll.kp k h.ix, k.at_ _ _ h.hR (by simpa using n2), k.at_ _ _ h.hU (by simpa using n3), k.at_ _ _ h.hp (by simpa using n4), h.raw.kp (k.mono fun x hx => by rw [List.mem_singleton.mp hx]; exact hb)⟩
theorem PSt.fresh {q : Addr} {o : HO} (h : PSt b c t R U p xs tbs pl zs ps us H ms H') (hq : H' q = none) : PSt b c t R U p xs tbs pl zs ps us H (q :: ms) (upd H' q o) :=
  have k : Kp [] H' (upd H' q o) := Kp.new hq
  ⟨h.bag.keep0 k, h.kp.trans k.zero, k.at_ _ _ h.ht (fun z => nomatch z), ImAll.kp k h.ix, k.at_ _ _ h.hR (fun z => nomatch z), k.at_ _ _ h.hU (fun z => nomatch z), k.at_ _ _ h.hp (fun z => nomatch z), (h.raw.new hq).kp k.zero⟩
theorem PSt.mono {ms' : List Addr} (h : PSt b c t R U p xs tbs pl zs ps us H ms H') (m : ∀ x ∈ ms', x ∈ ms) : PSt b c t R U p xs tbs pl zs ps us H ms' H' :=
  ⟨h.bag, h.kp, h.ht, h.ix, h.hR, h.hU, h.hp, h.raw.mono m⟩
/-- another object of the def's own is changed -/
theorem PSt.own {q : Addr} {o o' : HO} (h : PSt b c t R U p xs tbs pl zs ps us H ms H') (hq : H' q = some o) (ho : ∀ xs, o ≠ .tup xs) (hf : H q = none) (hm : q ∈ ms) (n0 : q ≠ b) (n5 : q ≠ c) (n1 : t ≠ q) (n2 : R ≠ q) (n3 : U ≠ q) (n4 : p ≠ q) : PSt b c t R U p xs tbs pl zs ps us H ms (upd H' q o') :=
  have k : Kp [q] H' (upd H' q o') := Kp.set hq ho (by simp)
  ⟨h.bag.keep k (by simpa using Ne.symm n0) (by simpa using Ne.symm n5), h.kp.late hf, k.at_ _ _ h.ht (by simpa using n1), ImAll.kp k h.ix, k.at_ _ _ h.hR (by simpa using n2), k.at_ _ _ h.hU (by simpa using n3), k.at_ _ _ h.hp (by simpa using n4), h.raw.kp (k.mono fun x hx => by rw [List.mem_singleton.mp hx]; exact hm)⟩
/-- the list of used strings grows -/
theorem PSt.used {u : Str} (h : PSt b c t R U p xs tbs pl zs ps us H ms H') (hf : H U = none) (hm : U ∈ ms) (n0 : U ≠ b) (n5 : U ≠ c) (n1 : t ≠ U) (n2 : R ≠ U) (n4 : p ≠ U) : PSt b c t R U p xs tbs pl zs ps (us ++ [u]) H ms (upd H' U (.lst (us.map V.str ++ [.str u]))) :=
  have k : Kp [U] H' (upd H' U (.lst (us.map V.str ++ [.str u]))) := Kp.updL h.hU (by simp)
  ⟨h.bag.keep k (by simpa using Ne.symm n0) (by simpa using Ne.symm n5), h.kp.late hf, k.at_ _ _ h.ht (by simpa using n1), ImAll.kp k h.ix, k.at_ _ _ h.hR (by simpa using n2), by rw [upd_same, List.map_append]; rfl, k.at_ _ _ h.hp (by simpa using n4), h.raw.kp (k.mono fun x hx => by rw [List.mem_singleton.mp hx]; exact hm)⟩
end
theorem six : ∀ n : Nat, n < 6 → ∃ k : Nat, ([V.int 1, V.int 2, V.int 3, V.int 4, V.int 6, V.int 24] : List V)[n]? = some (.int k) ∧ 1 ≤ k ∧ k ≤ 24
  | 0, _ => ⟨1, rfl, by decide, by decide⟩
  | 1, _ => ⟨2, rfl, by decide, by decide⟩
  | 2, _ => ⟨3, rfl, by decide, by decide⟩
  | 3, _ => ⟨4, rfl, by decide, by decide⟩
  | 4, _ => ⟨6, rfl, by decide, by decide⟩
  | 5, _ => ⟨24, rfl, by decide, by decide⟩
  | n + 6, h => absurd h (by omega)
theorem fivep : ∀ n : Nat, n < 5 → ∃ k : Nat, ([V.int 1, V.int 1, V.int 2, V.int 3, V.int 100] : List V)[n]? = some (.int k) ∧ 1 ≤ k ∧ k ≤ 100
  | 0, _ => ⟨1, rfl, by decide, by decide⟩
  | 1, _ => ⟨1, rfl, by decide, by decide⟩
  | 2, _ => ⟨2, rfl, by decide, by decide⟩
  | 3, _ => ⟨3, rfl, by decide, by decide⟩
  | 4, _ => ⟨100, rfl, by decide, by decide⟩
  | n + 5, h => absurd h (by omega)
theorem last_at {ys : List V} {y : V} : atI (ys ++ [y]) (-1) = some y := by
  unfold atI ixN
  rw [if_neg (by omega), List.length_append, List.length_singleton, if_pos (by omega)]
  rw [show ((-1 : Int) + ((ys.length + 1 : Nat) : Int)).toNat = ys.length by omega]
  simp
/-- powers, one set -/
def putP (pw : List (Str × Int)) (s : Str) (n : Int) : List (Str × Int) := if s ∈ pw.map (·.1) then pw.map fun p => if p.1 = s then (p.1, n) else p else pw ++ [(s, n)]
theorem putP_kv (pw : List (Str × Int)) (s : Str) (n : Int) : putK (pwKv pw) (.inr s) (.int n) = pwKv (putP pw s n) := by
  unfold putK putP
  by_cases h : s ∈ pw.map (·.1)
  · rw [if_pos h, if_pos]
    · unfold pwKv
      rw [List.map_map, List.map_map]
      refine List.map_congr_left fun q _ => ?_
      by_cases e : q.1 = s
      · simp [e]
      · simp [e]
    · obtain ⟨q, hq, rfl⟩ := List.mem_map.mp h
      exact List.any_eq_true.mpr ⟨(.inr q.1, .int q.2), List.mem_map.mpr ⟨q, hq, rfl⟩, by simp⟩
  · rw [if_neg h, if_neg]
    · unfold pwKv; rw [List.map_append]; rfl
    · intro z
      obtain ⟨q, hq, e⟩ := List.any_eq_true.mp z
      obtain ⟨q0, h0, rfl⟩ := List.mem_map.mp hq
      exact h (List.mem_map.mpr ⟨q0, h0, by simpa using e⟩)
theorem putP_ok {ns : List Str} {pw : List (Str × Int)} {s : Str} {n : Int} (h : PwOk ns pw) (hs : s ∈ ns) (h1 : 1 ≤ n) (h2 : n ≤ 100) : PwOk ns (putP pw s n) := by
  unfold putP
  split
  · refine ⟨?_, fun q hq => ?_⟩
    · rw [List.map_map, show (List.map ((fun x => x.1) ∘ fun p : Str × Int => if p.1 = s then (p.1, n) else p) pw) = pw.map (·.1) from List.map_congr_left fun q _ => by
        show (if q.1 = s then (q.1, n) else q).1 = q.1
        split <;> rfl]
      exact h.1
    · obtain ⟨q0, h0, rfl⟩ := List.mem_map.mp hq
      have := h.2 q0 h0
      split
      · exact ⟨this.1, h1, h2⟩
      · exact this
  · rename_i hn
    refine ⟨?_, fun q hq => ?_⟩
    · rw [List.map_append]
      exact List.nodup_append.mpr ⟨h.1, List.nodup_cons.mpr ⟨List.not_mem_nil, List.nodup_nil⟩, fun a ha b hb => by
        rw [List.mem_singleton.mp hb]; rintro rfl; exact hn ha⟩
    · rcases List.mem_append.mp hq with hq | hq
      · exact h.2 q hq
      · rw [List.mem_singleton.mp hq]; exact ⟨hs, h1, h2⟩
theorem PwOk.mono {ns ms : List Str} {pw : List (Str × Int)} (h : PwOk ns pw) (m : ∀ s ∈ ns, s ∈ ms) : PwOk ms pw := ⟨h.1, fun q hq => let ⟨a, b⟩ := h.2 q hq; ⟨m _ a, b⟩⟩
def TxPs (ps : List (Str × List Key)) : Prop := ∀ r ∈ ps, ∀ s, Sum.inr s ∈ r.2 → s ∈ txs
def spPattern : Sp := fun vs H Q _ => ∃ (b c t : Addr) (xs : List V) (tbs : List (Str × List Str)) (most : Nat), vs = [.ref b, .ref t, .int most] ∧ Bag H b c ∧ H t = some (.lst xs) ∧ t ≠ b ∧ ImAll H 2 xs (tbs.map dTab) ∧ GoodTs tbs ∧ most ≤ 6 ∧
  ∀ (q R G W : Addr) ps g pw H', H' q = some (.tup [.ref R, .ref G, .ref W]) → RawAt [b] H' R G W ps g pw → TxPs ps → ps.length ≤ most → Bag H' b c → Kp [b] H H' → H R = none → H G = none → H W = none → Q (.ref q) H'
section
variable {P : Program} {w : World} {K : PySem.W.Frag} {mg : Str → Option Value} {base : Heap}
theorem ok_pattern (B : Bi mg) (D : Dfn K mg "_law_pattern" s__law_pattern ["_law_bag_here", "_law_tables_here", "_law_most"]) (G_pick : Has P w K mg base CX0 "_law_pick" ["_law_bag_here", "_law_many"] 1 spPick) (G_pool : Has P w K mg base CX0 "_law_pool" ["_law_bag_here"] 2 spPool) (G_value : Has P w K mg base CX0 "_law_value" ["_law_bag_here"] 2 spValue) :
    Has P w K mg base CX0 "_law_pattern" ["_law_bag_here", "_law_tables_here", "_law_most"] 3 spPattern := by
  refine D.has sc__law_pattern (fun vs H Q E h => ?_) (fun f cdv A outer s H vs Q E hr h => ?_)
  · obtain ⟨b, c, t, xs, tbs, most, rfl, _⟩ := h; rfl
  · obtain ⟨b, c, t, xs, tbs, most, rfl, BG, ht, tb, ix, g5, m6, k⟩ := h
    have hu := hu_of hr
    refine ⟨_, (pss_cons (ps_set (i := 3) sc__law_pattern.nd rfl (by first | exact Or.inl rfl | exact Or.inr rfl) (pe_has G_pool (hr.mono (by omega)) (pa_cons (pv 0) pa_nil)))
  (pss_cons (ps_set (i := 4) sc__law_pattern.nd rfl (by first | exact Or.inl rfl | exact Or.inr rfl) (pe_ix ix_list (pe_lst (pa_cons pe_int (pa_cons pe_int (pa_cons pe_int (pa_cons pe_int (pa_cons pe_int (pa_cons pe_int pa_nil))))))) (pe_has G_pick (hr.mono (by omega)) (pa_cons (pv 0) (pa_cons pe_int pa_nil))) (fun _ _ => rfl)))
  (pss_cons (ps_set (i := 5) sc__law_pattern.nd rfl (by first | exact Or.inl rfl | exact Or.inr rfl) (pe_lst pa_nil))
  (pss_cons (ps_set (i := 6) sc__law_pattern.nd rfl (by first | exact Or.inl rfl | exact Or.inr rfl) (pe_lst pa_nil))
  (pss_cons (ps_for PassesOwn.never rfl (pi_range1 rfl B.range (pa_cons (pe_has G_pick (hr.mono (by omega)) (pa_cons (pv 0) (pa_cons (pe_op op_add (pv 2) pe_int) pa_nil))) pa_nil)) (pg_name (i := 7) sc__law_pattern.nd rfl (by first | exact Or.inl rfl | exact Or.inr rfl))
  (pss_cons (ps_set (i := 8) sc__law_pattern.nd rfl (by first | exact Or.inl rfl | exact Or.inr rfl) (pe_ix ix_list (pv 1) (pe_has G_pick (hr.mono (by omega)) (pa_cons (pv 0) (pa_cons (pe_callB call_len (by rfl) B.len PySem.boot_len (pa_cons (pv 1) pa_nil)) pa_nil))) (fun _ _ => rfl)))
  (pss_cons (ps_set (i := 9) sc__law_pattern.nd rfl (by first | exact Or.inl rfl | exact Or.inr rfl) (pe_lst pa_nil))
  (pss_cons (ps_for PassesOwn.never rfl (pi_tup (pe_ix (r := rIxT K) ix_tup (pv 8) pe_int (fun _ _ => rfl))) (pg_name (i := 10) sc__law_pattern.nd rfl (by first | exact Or.inl rfl | exact Or.inr rfl))
  (pss_one (ps_if (pt_cmpR op_eq (pe_has G_pick (hr.mono (by omega)) (pa_cons (pv 0) (pa_cons pe_int pa_nil))) pe_int (nomark _))
  (pss_one (ps_expr (pe_bm PySem.F.plainAttrs_list PySem.F.slot_list_append PySem.F.type_list_append mt_append (pv 9) (pa_cons (pe_has G_value (hr.mono (by omega)) (pa_cons (pv 0) pa_nil)) pa_nil))))
  (pss_cons (ps_expr (pe_bm PySem.F.plainAttrs_list PySem.F.slot_list_append PySem.F.type_list_append mt_append (pv 9) (pa_cons (pe_ix ix_list (pv 3) (pe_has G_pick (hr.mono (by omega)) (pa_cons (pv 0) (pa_cons (pv 4) pa_nil))) (fun _ _ => rfl)) pa_nil)))
  (pss_one (ps_expr (pe_bm PySem.F.plainAttrs_list PySem.F.slot_list_append PySem.F.type_list_append mt_append (pv 6) (pa_cons (pe_ix ix_list (pv 9) (pe_un un_neg pe_int) (fun _ _ => rfl)) pa_nil))))))))
  (pss_one (ps_expr (pe_bm PySem.F.plainAttrs_list PySem.F.slot_list_append PySem.F.type_list_append mt_append (pv 5) (pa_cons (pe_tup (pa_cons (pe_ix ix_tup (pv 8) pe_int (fun _ _ => rfl)) (pa_cons (pv 9) pa_nil))) pa_nil))))))))
  (pss_cons (ps_set (i := 11) sc__law_pattern.nd rfl (by first | exact Or.inl rfl | exact Or.inr rfl) (pe_lst pa_nil))
  (pss_cons (ps_for PassesOwn.never rfl (pi_range1 rfl B.range (pa_cons (pe_has G_pick (hr.mono (by omega)) (pa_cons (pv 0) (pa_cons pe_int pa_nil))) pa_nil)) (pg_name (i := 7) sc__law_pattern.nd rfl (by first | exact Or.inl rfl | exact Or.inr rfl))
  (pss_one (ps_if (PW.pt (pw_or (pt_cmpR op_eq (pe_callB call_len (by rfl) B.len PySem.boot_len (pa_cons (pv 6) pa_nil)) pe_int (nomark _)) (pw_or1 (pt_cmpR op_eq (pe_has G_pick (hr.mono (by omega)) (pa_cons (pv 0) (pa_cons pe_int pa_nil))) pe_int (nomark _)))))
  (pss_one (ps_expr (pe_bm PySem.F.plainAttrs_list PySem.F.slot_list_append PySem.F.type_list_append mt_append (pv 11) (pa_cons (pe_has G_value (hr.mono (by omega)) (pa_cons (pv 0) pa_nil)) pa_nil))))
  (pss_one (ps_expr (pe_bm PySem.F.plainAttrs_list PySem.F.slot_list_append PySem.F.type_list_append mt_append (pv 11) (pa_cons (pe_ix ix_list (pv 6) (pe_has G_pick (hr.mono (by omega)) (pa_cons (pv 0) (pa_cons (pe_callB call_len (by rfl) B.len PySem.boot_len (pa_cons (pv 6) pa_nil)) pa_nil))) (fun _ _ => rfl)) pa_nil)))))))
  (pss_cons (ps_set (i := 12) sc__law_pattern.nd rfl (by first | exact Or.inl rfl | exact Or.inr rfl) pe_dnewK)
  (C8.pss_cut (ps_if (pt_cmpR op_gt (pe_callB call_len (by rfl) B.len PySem.boot_len (pa_cons (pv 6) pa_nil)) pe_int (nomark _))
  (pss_one (ps_for PassesOwn.never rfl (pi_range1 rfl B.range (pa_cons (pe_has G_pick (hr.mono (by omega)) (pa_cons (pv 0) (pa_cons pe_int pa_nil))) pa_nil)) (pg_name (i := 7) sc__law_pattern.nd rfl (by first | exact Or.inl rfl | exact Or.inr rfl))
  (pss_one (ps_dput hu (pv 12) (pe_ix ix_list (pv 6) (pe_has G_pick (hr.mono (by omega)) (pa_cons (pv 0) (pa_cons (pe_callB call_len (by rfl) B.len PySem.boot_len (pa_cons (pv 6) pa_nil)) pa_nil))) (fun _ _ => rfl)) (pe_ix ix_list (pe_lst (pa_cons pe_int (pa_cons pe_int (pa_cons pe_int (pa_cons pe_int (pa_cons pe_int pa_nil)))))) (pe_has G_pick (hr.mono (by omega)) (pa_cons (pv 0) (pa_cons pe_int pa_nil))) (fun _ _ => rfl)) rfl))))
  pss_nil)
  (pss_one (ps_ret (pe_tup (pa_cons (pv 5) (pa_cons (pv 11) (pa_cons (pv 12) pa_nil))))))))))))))), ?_⟩
    refine ⟨_, rfl, b, c, rfl, BG, fun p pl H1 hpl B1 k1 hpH hp1 => ?_⟩
    obtain ⟨pl29, plnd, pltx⟩ := hpl
    have ne_b : ∀ {x : Addr}, H x = none → x ≠ b := fun {x} h z => by
      obtain ⟨o, ho⟩ := BG.someB
      rw [← z, h] at ho; cases ho
    have ne_c : ∀ {x : Addr}, H x = none → x ≠ c := fun {x} h z => by
      obtain ⟨o, ho⟩ := BG.someC
      rw [← z, h] at ho; cases ho
    have ne_t : ∀ {x : Addr}, H x = none → t ≠ x := fun {x} h z => by
      rw [← z, ht] at h; cases h
    have free1 : ∀ {x : Addr}, H1 x = none → H x = none := fun {x} h => k1.freeB B1 h
    have pb := ne_b hpH
    refine ⟨by show 6 ≤ sizeLine; decide, fun q1 n1 => ?_⟩
    have k2 := k1.snoc (o := .lst [V.int 1, V.int 2, V.int 3, V.int 4, V.int 6, V.int 24]) n1
    refine ⟨_, rfl, b, c, 6, rfl, B1.keep0 (Kp.new n1), by decide, by decide, fun r H3 r0 r1 B3 k3 => ?_⟩
    have q1b := ne_b (free1 n1)
    obtain ⟨sp, hsp, s1, s24⟩ := six r.toNat (by omega)
    refine ⟨q1, _, r, .int sp, rfl, rfl, SqL.of (k3.at_ _ _ upd_same (by simpa using q1b)), atI_of r0 hsp, ?_⟩
    have k13 : Kp [b] H H3 := k2.trans k3
    have hp3 : H3 p = some (.lst (pl.map V.str)) := k3.at_ _ _ ((Kp.new (ms := []) n1).at_ _ _ hp1 (fun z => nomatch z)) (by simpa using pb)
    refine ⟨by show 0 ≤ sizeLine; decide, fun R hR => ⟨by show 0 ≤ sizeLine; decide, fun U hU => ?_⟩⟩
    have hRH : H R = none := k13.freeB B3 hR
    have UR : U ≠ R := fun z => by rw [z, upd_same] at hU; cases hU
    have hU3 : H3 U = none := by rw [upd_ne UR] at hU; exact hU
    have hUH : H U = none := k13.freeB B3 hU3
    have pR : p ≠ R := fun z => by rw [z, hR] at hp3; cases hp3
    have pU : p ≠ U := fun z => by rw [z, hU3] at hp3; cases hp3
    have P0 : PSt b c t R U p xs tbs pl [] [] [] H [b, R, U] (upd (upd H3 R (.lst [])) U (.lst [])) := by
      have kRU : Kp [] H3 (upd (upd H3 R (.lst [])) U (.lst [])) := (Kp.new hR).snoc hU
      exact ⟨B3.keep0 kRU, k13.trans kRU.zero, kRU.at_ _ _ (k13.at_ _ _ ht (by simpa using tb)) (fun z => nomatch z), ImAll.kp (k13.trans kRU.zero) ix, by rw [upd_ne (Ne.symm UR)]; exact upd_same, upd_same, kRU.at_ _ _ hp3 (fun z => nomatch z), .nil⟩
    refine ⟨_, rfl, _, rfl, _, _, rfl, rfl, b, c, (most : Int) + 1, rfl, P0.bag, by omega, by omega, fun n H4 n0 n1 B4 k4 => ?_⟩
    have Rb := ne_b hRH
    have Ub := ne_b hUH
    have P4 := P0.draw B4 k4 (by simp) tb Rb Ub pb
    have hsz : sizeLine = 16777216 := rfl
    refine ⟨n, rfl, by omega, by omega, ?_⟩
    refine for_range (lo := 0) (n := n.toNat) (fun i σ H' => (∃ o7 o8 o9 o10, σ = [some (.ref b), some (.ref t), some (.int most), some (.ref p), some (.int sp), some (.ref R), some (.ref U), o7, o8, o9, o10, none, none]) ∧ ∃ zs ps us, zs.length = i ∧ PSt b c t R U p xs tbs pl zs ps us H [b, R, U] H' ∧ (∀ r ∈ ps, IsNm r.1 ∧ 1 ≤ r.2.length ∧ r.2.length ≤ 4 ∧ ∀ k ∈ r.2, SymOk k) ∧ TxPs ps ∧ us.length ≤ 4 * i ∧ ∀ u ∈ us, ∃ r ∈ ps, Sum.inr u ∈ r.2) ⟨⟨_, _, _, _, rfl⟩, [], [], [], rfl, P4, (fun r h => nomatch h), (fun r h => nomatch h), Nat.zero_le _, (fun u h => nomatch h)⟩ ?_ ?_
    · rintro i σ H5 hi ⟨⟨o7, o8, o9, o10, rfl⟩, zs, ps, us, lz, P5, okp, txp, lu, uin⟩
      have i6 : i < 6 := by omega
      have lxt : xs.length = tbs.length := by rw [ix.len, List.length_map]
      have t5 := g5.2.2.2
      have t1 := g5.2.2.1
      refine ⟨_, rfl, _, rfl, _, rfl, _, _, rfl, .inl ⟨_, SqL.of P5.ht, rfl⟩, b, c, (xs.length : Nat), rfl, P5.bag, by omega, by omega, fun m H6 m0 m1 B6 k6 => ?_⟩
      have P6 := P5.draw B6 k6 (by simp) tb Rb Ub pb
      obtain ⟨u, hu1⟩ : ∃ u, xs[m.toNat]? = some u := ⟨_, List.getElem?_eq_getElem (by omega)⟩
      obtain ⟨ta, tf, tt, rfl, htt, e1, e2⟩ := tab_in P6.ix hu1
      have gt := g5.1 tt (List.mem_of_getElem? htt)
      refine ⟨t, _, m, _, rfl, rfl, SqL.of P6.ht, atI_of m0 hu1, ?_⟩
      refine ⟨by show 0 ≤ sizeLine; decide, fun S hS => ?_⟩
      have P7 := P6.fresh (o := .lst []) hS
      have hSH := P6.kp.freeB P6.bag hS
      have Sb := ne_b hSH
      have Sc := ne_c hSH
      have tS := ne_t hSH
      have RS : R ≠ S := fun z => by rw [← z, P6.hR] at hS; cases hS
      have US : U ≠ S := fun z => by rw [← z, P6.hU] at hS; cases hS
      have pS : p ≠ S := fun z => by rw [← z, P6.hp] at hS; cases hS
      have e1' : upd H6 S (.lst []) ta = some (.tup [.str tt.1, .ref tf]) := (Kp.new (ms := []) hS).tp _ _ e1
      have e2' : upd H6 S (.lst []) tf = some (.tup (tt.2.map V.str)) := (Kp.new (ms := []) hS).tp _ _ e2
      refine ⟨_, rfl, ta, _, 1, _, rfl, rfl, SqT.of e1', rfl, tf, rfl, ⟨_, .inl (.inl e2')⟩, ?_⟩
      refine for_it (walk_tup (xs := tt.2.map V.str)) (fun j σ H' => (∃ o10, σ = [some (.ref b), some (.ref t), some (.int most), some (.ref p), some (.int sp), some (.ref R), some (.ref U), some (.int (0 + (i : Int))), some (.ref ta), some (.ref S), o10, none, none]) ∧ (H' tf = some (.tup (tt.2.map V.str)) ∧ H' ta = some (.tup [.str tt.1, .ref tf])) ∧ ∃ ks us, H' S = some (.lst (ks.map kV)) ∧ ks.length = j ∧ (∀ k ∈ ks, SymOk k) ∧ (∀ s, Sum.inr s ∈ ks → s ∈ txs) ∧ PSt b c t R U p xs tbs pl zs ps us H [S, b, R, U] H' ∧ us.length ≤ 4 * i + j ∧ ∀ u ∈ us, (∃ r ∈ ps, Sum.inr u ∈ r.2) ∨ Sum.inr u ∈ ks) ⟨⟨_, rfl⟩, ⟨e2', e1'⟩, [], us, upd_same, rfl, (fun k h => nomatch h), (fun s h => nomatch h), P7, by omega, fun u h => .inl (uin u h)⟩ (fun j σ H' _ h => .inl (.inl h.2.1.1)) ?_ ?_
      · rintro j u σ H7 H8 hj ⟨⟨o10, rfl⟩, e7, ks, us', hS7, lk, okk, txk, P8, lu', uin'⟩ ⟨rfl, hu2⟩
        rw [List.length_map] at hj
        have j4 : j < 4 := by have := gt.2.2.2.2; omega
        refine ⟨_, rfl, b, c, 6, rfl, P8.bag, by decide, by decide, fun z H9 z0 z1 B9 k9 => ⟨rfl, _, rfl, ?_⟩⟩
        have P9 := P8.draw B9 k9 (by simp) tb Rb Ub pb
        have hS9 := k9.at_ _ _ hS7 (by simpa using Sb)
        have e9 := And.intro (k9.tp _ _ e7.1) (k9.tp _ _ e7.2)
        have lS : (ks.map kV).length < sizeLine := by rw [List.length_map, lk]; exact small1000 (by omega)
        refine ite2 (fun _ => ?_) (fun _ => ?_)
        · refine ⟨_, rfl, .inl ⟨rfl, _, SqL.of hS9⟩, _, rfl, b, c, rfl, P9.bag, fun v H10 hv B10 k10 => ?_⟩
          have P10 := P9.draw B10 k10 (by simp) tb Rb Ub pb
          have hS10 := k10.at_ _ _ hS9 (by simpa using Sb)
          have P11 := P10.own (o' := .lst (ks.map kV ++ [.int v])) hS10 (fun _ z => by cases z) hSH (by simp) Sb Sc tS RS US pS
          refine ⟨S, _, _, rfl, rfl, hS10, lS, ?_⟩
          refine ⟨⟨_, rfl⟩, ⟨(Kp.updL (ms := [S]) hS10 (by simp)).tp _ _ (k10.tp _ _ e9.1), (Kp.updL (ms := [S]) hS10 (by simp)).tp _ _ (k10.tp _ _ e9.2)⟩, ks ++ [.inl v], us', by rw [upd_same, List.map_append]; rfl, by simp [lk], fun k hk => ?_, fun s hs => ?_, P11, by omega, fun u hu => ?_⟩
          · rcases List.mem_append.mp hk with h | h
            · exact okk k h
            · rw [List.mem_singleton.mp h]; exact hv
          · rcases List.mem_append.mp hs with h | h
            · exact txk s h
            · cases List.mem_singleton.mp h
          · exact (uin' u hu).imp_right (List.mem_append_left _)
        · refine ⟨_, rfl, .inl ⟨rfl, _, SqL.of hS9⟩, _, rfl, _, rfl, _, rfl, b, c, (sp : Int), rfl, P9.bag, by omega, by omega, fun v H10 v0 v1 B10 k10 => ?_⟩
          have P10 := P9.draw B10 k10 (by simp) tb Rb Ub pb
          have hS10 := k10.at_ _ _ hS9 (by simpa using Sb)
          obtain ⟨w1, hw1⟩ : ∃ w1, pl[v.toNat]? = some w1 := ⟨_, List.getElem?_eq_getElem (by omega)⟩
          have w1t := pltx w1 (List.mem_of_getElem? hw1)
          refine ⟨p, _, v, .str w1, rfl, rfl, SqL.of P10.hp, atI_of v0 (by rw [List.getElem?_map, hw1]; rfl), ?_⟩
          have P11 := P10.own (o' := .lst (ks.map kV ++ [.str w1])) hS10 (fun _ z => by cases z) hSH (by simp) Sb Sc tS RS US pS
          refine ⟨S, _, _, rfl, rfl, hS10, lS, ?_⟩
          refine ⟨_, rfl, .inl ⟨rfl, _, SqL.of P11.hU⟩, _, rfl, _, rfl, ?_⟩
          refine ⟨S, _, _, _, rfl, rfl, SqL.of upd_same, last_at, ?_⟩
          refine ⟨U, _, _, rfl, rfl, P11.hU, by rw [List.length_map]; exact small1000 (by omega), ?_⟩
          have P12 := P11.used (u := w1) hUH (by simp) Ub (ne_c hUH) (ne_t hUH) (Ne.symm UR) pU
          refine ⟨⟨_, rfl⟩, ⟨(Kp.updL (ms := [U]) P11.hU (by simp)).tp _ _ ((Kp.updL (ms := [S]) hS10 (by simp)).tp _ _ (k10.tp _ _ e9.1)), (Kp.updL (ms := [U]) P11.hU (by simp)).tp _ _ ((Kp.updL (ms := [S]) hS10 (by simp)).tp _ _ (k10.tp _ _ e9.2))⟩, ks ++ [.inr w1], us' ++ [w1], by rw [upd_ne (Ne.symm US), upd_same, List.map_append]; rfl, by simp [lk], fun k hk => ?_, fun s hs => ?_, P12, by simp; omega, fun u hu => ?_⟩
          · rcases List.mem_append.mp hk with h | h
            · exact okk k h
            · rw [List.mem_singleton.mp h]; exact Nat.le_trans (txs_short w1 w1t) (by decide)
          · rcases List.mem_append.mp hs with h | h
            · exact txk s h
            · cases List.mem_singleton.mp h; exact w1t
          · rcases List.mem_append.mp hu with h | h
            · exact (uin' u h).imp_right (List.mem_append_left _)
            · rw [List.mem_singleton.mp h]; exact .inr (List.mem_append_right _ List.mem_cons_self)
      · rintro σ H7 ⟨⟨o10, rfl⟩, e7, ks, us', hS7, lk, okk, txk, P8, lu', uin'⟩
        rw [List.length_map] at lk lu'
        refine ⟨_, rfl, .inl ⟨rfl, _, SqL.of P8.hR⟩, _, rfl, ta, _, 0, _, rfl, rfl, SqT.of e7.2, rfl, _, rfl, by show 2 ≤ sizeLine; decide, fun T hT => ?_⟩
        have P9 := P8.fresh (o := .tup [.str tt.1, .ref S]) hT
        have hS8 : upd H7 T (.tup [.str tt.1, .ref S]) S = some (.lst (ks.map kV)) := (Kp.new (ms := []) hT).at_ _ _ hS7 (fun z => nomatch z)
        have kR : Kp [R] (upd H7 T (.tup [.str tt.1, .ref S])) (upd (upd H7 T (.tup [.str tt.1, .ref S])) R (.lst (zs ++ [.ref T]))) := Kp.updL P9.hR (by simp)
        refine ⟨R, _, _, rfl, rfl, P9.hR, by rw [lz]; exact small1000 (by omega), ?_⟩
        have hT9 := kR.tp _ _ (upd_same (H := H7) (a := T))
        have hS9 := kR.at_ _ _ hS8 (by simpa using Ne.symm RS)
        have P10 : PSt b c t R U p xs tbs pl (zs ++ [.ref T]) (ps ++ [(tt.1, ks)]) us' H [b, R, U] (upd (upd H7 T (.tup [.str tt.1, .ref S])) R (.lst (zs ++ [.ref T]))) :=
          ⟨P9.bag.keep kR (by simpa using Ne.symm Rb) (by simpa using Ne.symm (ne_c hRH)), P9.kp.late hRH, kR.at_ _ _ P9.ht (by simpa using ne_t hRH), ImAll.kp kR P9.ix, upd_same, kR.at_ _ _ P9.hU (by simpa using UR), kR.at_ _ _ P9.hp (by simpa using pR), ((P9.raw.mono (ms' := [b, R, U]) (by simp)).kp (kR.mono (by simp))).snoc (r := (tt.1, ks)) hT9 hS9 (by simp [Sb, Ne.symm RS, Ne.symm US])⟩
        refine ⟨⟨_, _, _, _, rfl⟩, _, _, us', by simp [lz], P10, fun r hr => ?_, fun r hr => ?_, ?_, fun u hu => ?_⟩
        · rcases List.mem_append.mp hr with h | h
          · exact okp r h
          · rw [List.mem_singleton.mp h]
            exact ⟨gt.1, by show 1 ≤ ks.length; have := gt.2.2.2.1; omega, by show ks.length ≤ 4; have := gt.2.2.2.2; omega, okk⟩
        · rcases List.mem_append.mp hr with h | h
          · exact txp r h
          · rw [List.mem_singleton.mp h]; exact txk
        · have := gt.2.2.2.2; omega
        · rcases uin' u hu with ⟨r, hr, h⟩ | h
          · exact ⟨r, List.mem_append_left _ hr, h⟩
          · exact ⟨(tt.1, ks), List.mem_append_right _ List.mem_cons_self, h⟩
    · rintro σ H5 ⟨⟨o7, o8, o9, o10, rfl⟩, zs, ps, us, lz, P5, okp, txp, lu, uin⟩
      have el := P5.raw.len
      have okP : PsOk ps := ⟨by omega, okp⟩
      have usn : ∀ u ∈ us, u ∈ namesP ps := fun u hu => let ⟨r, hr, h⟩ := uin u hu; foldR_in ps [] u r hr h
      have lu24 : us.length ≤ 24 := by omega
      refine ⟨by show 0 ≤ sizeLine; decide, fun G hG => ?_⟩
      have P6 := P5.fresh (o := .lst []) hG
      have hGH := P5.kp.freeB P5.bag hG
      have Gb := ne_b hGH
      have Gc := ne_c hGH
      have RG : R ≠ G := fun z => by rw [← z, P5.hR] at hG; cases hG
      have UG : U ≠ G := fun z => by rw [← z, P5.hU] at hG; cases hG
      have pG : p ≠ G := fun z => by rw [← z, P5.hp] at hG; cases hG
      refine ⟨_, rfl, b, c, 4, rfl, P6.bag, by decide, by decide, fun n2 H6 n20 n21 B6 k6 => ⟨n2, rfl, by omega, by omega, ?_⟩⟩
      have P7 := P6.draw B6 k6 (by simp) tb Rb Ub pb
      have hG6 := k6.at_ _ _ upd_same (by simpa using Gb)
      refine for_range (lo := 0) (n := n2.toNat) (fun i σ H' => (∃ o7, σ = [some (.ref b), some (.ref t), some (.int most), some (.ref p), some (.int sp), some (.ref R), some (.ref U), o7, o8, o9, o10, some (.ref G), none]) ∧ ∃ g, H' G = some (.lst (g.map kV)) ∧ g.length = i ∧ (∀ k ∈ g, SymOk k) ∧ (∀ s, Sum.inr s ∈ g → s ∈ us) ∧ PSt b c t R U p xs tbs pl zs ps us H [G, b, R, U] H') ⟨⟨_, rfl⟩, [], hG6, rfl, (fun k h => nomatch h), (fun s h => nomatch h), P7⟩ ?_ ?_
      · rintro i σ H7 hi ⟨⟨o7, rfl⟩, g, hG7, lg, okg, gin, P8⟩
        have i3 : i < 3 := by omega
        have lG : (g.map kV).length < sizeLine := by rw [List.length_map, lg]; exact small1000 (by omega)
        have addv : ∀ {H8 : Hp}, PSt b c t R U p xs tbs pl zs ps us H [G, b, R, U] H8 → H8 G = some (.lst (g.map kV)) → ∀ (y : Key), SymOk y → (∀ s, y = .inr s → s ∈ us) → ∃ g' : List Key, (upd H8 G (.lst (g.map kV ++ [kV y]))) G = some (.lst (g'.map kV)) ∧ g'.length = i + 1 ∧ (∀ k ∈ g', SymOk k) ∧ (∀ s, Sum.inr s ∈ g' → s ∈ us) ∧ PSt b c t R U p xs tbs pl zs ps us H [G, b, R, U] (upd H8 G (.lst (g.map kV ++ [kV y]))) := fun {H8} P h8 y oy hy => by
          refine ⟨g ++ [y], by rw [upd_same, List.map_append]; rfl, by simp [lg], fun k hk => ?_, fun s hs => ?_, P.own h8 (fun _ z => by cases z) hGH (by simp) Gb Gc (ne_t hGH) RG UG pG⟩
          · rcases List.mem_append.mp hk with h | h
            · exact okg k h
            · rw [List.mem_singleton.mp h]; exact oy
          · rcases List.mem_append.mp hs with h | h
            · exact gin s h
            · exact hy s (List.mem_singleton.mp h).symm
        refine ⟨_, rfl, _, _, rfl, .inl ⟨_, SqL.of P8.hU, rfl⟩, rfl, _, rfl, ?_⟩
        refine ite2 (fun _ => ?_) (fun hne => ?_)
        · refine ⟨_, rfl, .inl ⟨rfl, _, SqL.of hG7⟩, _, rfl, b, c, rfl, P8.bag, fun v H10 hv B10 k10 => ?_⟩
          have P10 := P8.draw B10 k10 (by simp) tb Rb Ub pb
          have hG10 := k10.at_ _ _ hG7 (by simpa using Gb)
          exact ⟨G, _, _, rfl, rfl, hG10, lG, ⟨_, rfl⟩, addv P10 hG10 (.inl v) hv (fun s e => by cases e)⟩
        · have hne : us.length ≠ 0 := fun z => hne (by rw [List.length_map, z]; simp)
          refine ⟨_, rfl, b, c, 6, rfl, P8.bag, by decide, by decide, fun z H9 z0 z1 B9 k9 => ⟨rfl, _, rfl, ?_⟩⟩
          have P9 := P8.draw B9 k9 (by simp) tb Rb Ub pb
          have hG9 := k9.at_ _ _ hG7 (by simpa using Gb)
          refine ite2 (fun _ => ?_) (fun _ => ?_)
          · refine ⟨_, rfl, .inl ⟨rfl, _, SqL.of hG9⟩, _, rfl, b, c, rfl, P9.bag, fun v H10 hv B10 k10 => ?_⟩
            have P10 := P9.draw B10 k10 (by simp) tb Rb Ub pb
            have hG10 := k10.at_ _ _ hG9 (by simpa using Gb)
            exact ⟨G, _, _, rfl, rfl, hG10, lG, ⟨_, rfl⟩, addv P10 hG10 (.inl v) hv (fun s e => by cases e)⟩
          · refine ⟨_, rfl, .inl ⟨rfl, _, SqL.of hG9⟩, _, rfl, _, rfl, _, rfl, _, _, rfl, .inl ⟨_, SqL.of P9.hU, rfl⟩, b, c, ((us.map V.str).length : Nat), rfl, P9.bag, by rw [List.length_map]; omega, by rw [List.length_map]; omega, fun v H10 v0 v1 B10 k10 => ?_⟩
            rw [List.length_map] at v1
            have P10 := P9.draw B10 k10 (by simp) tb Rb Ub pb
            have hG10 := k10.at_ _ _ hG9 (by simpa using Gb)
            obtain ⟨w1, hw1⟩ : ∃ w1, us[v.toNat]? = some w1 := ⟨_, List.getElem?_eq_getElem (by omega)⟩
            have w1u := List.mem_of_getElem? hw1
            refine ⟨U, _, v, .str w1, rfl, rfl, SqL.of P10.hU, atI_of v0 (by rw [List.getElem?_map, hw1]; rfl), ?_⟩
            refine ⟨G, _, _, rfl, rfl, hG10, lG, ⟨_, rfl⟩, addv P10 hG10 (.inr w1) ?_ (fun s e => by cases e; exact w1u)⟩
            obtain ⟨r, hr, h⟩ := uin w1 w1u
            exact (okp r hr).2.2.2 _ h
      · rintro σ H7 ⟨⟨o7, rfl⟩, g, hG7, lg, okg, gin, P8⟩
        have lg3 : g.length ≤ 3 := by omega
        intro W hW
        have hWH := P8.kp.freeB P8.bag hW
        have Wb := ne_b hWH
        have Wc := ne_c hWH
        have RW : R ≠ W := fun z => by rw [← z, P8.hR] at hW; cases hW
        have UW : U ≠ W := fun z => by rw [← z, P8.hU] at hW; cases hW
        have pW : p ≠ W := fun z => by rw [← z, P8.hp] at hW; cases hW
        have GW : G ≠ W := fun z => by rw [← z, hG7] at hW; cases hW
        have P9 := P8.fresh (o := .dK []) hW
        have hG9 : upd H7 W (.dK []) G = some (.lst (g.map kV)) := (Kp.new (ms := []) hW).at_ _ _ hG7 (fun z => nomatch z)
        refine ⟨fun σ H' => (∃ o7, σ = [some (.ref b), some (.ref t), some (.int most), some (.ref p), some (.int sp), some (.ref R), some (.ref U), o7, o8, o9, o10, some (.ref G), some (.ref W)]) ∧ ∃ pw, H' W = some (.dK (pwKv pw)) ∧ PwOk us pw ∧ H' G = some (.lst (g.map kV)) ∧ PSt b c t R U p xs tbs pl zs ps us H [W, G, b, R, U] H', ?_, ?_⟩
        · refine ⟨_, rfl, _, _, rfl, .inl ⟨_, SqL.of P9.hU, rfl⟩, _, _, rfl, rfl, _, rfl, ?_⟩
          refine ite2 (fun hpos => ?_) (fun _ => ?_)
          · have hpos : 0 < us.length := by
              have := of_decide_eq_true hpos
              rw [List.length_map] at this
              omega
            refine ⟨_, rfl, b, c, 4, rfl, P9.bag, by decide, by decide, fun n3 H8 n30 n31 B8 k8 => ⟨n3, rfl, by omega, by omega, ?_⟩⟩
            have P10 := P9.draw B8 k8 (by simp) tb Rb Ub pb
            refine for_range (lo := 0) (n := n3.toNat) (fun i σ H' => (∃ o7, σ = [some (.ref b), some (.ref t), some (.int most), some (.ref p), some (.int sp), some (.ref R), some (.ref U), o7, o8, o9, o10, some (.ref G), some (.ref W)]) ∧ ∃ pw, pw.length ≤ i ∧ H' W = some (.dK (pwKv pw)) ∧ PwOk us pw ∧ H' G = some (.lst (g.map kV)) ∧ PSt b c t R U p xs tbs pl zs ps us H [W, G, b, R, U] H') ⟨⟨_, rfl⟩, [], Nat.zero_le _, k8.at_ _ _ upd_same (by simpa using Wb), ⟨List.nodup_nil, (fun q h => nomatch h)⟩, k8.at_ _ _ hG9 (by simpa using Gb), P10⟩ ?_ ?_
            · rintro i σ H9 hi ⟨⟨o7, rfl⟩, pw, lpw, hW9, okw, hG10, P11⟩
              refine ⟨by show 5 ≤ sizeLine; decide, fun q hq => ?_⟩
              have P12 := P11.fresh (o := .lst [V.int 1, V.int 1, V.int 2, V.int 3, V.int 100]) hq
              have qb := ne_b (P11.kp.freeB P11.bag hq)
              refine ⟨_, rfl, b, c, 5, rfl, P12.bag, by decide, by decide, fun r2 H11 r20 r21 B11 k11 => ?_⟩
              obtain ⟨kk, hk, kk1, kk100⟩ := fivep r2.toNat (by omega)
              refine ⟨q, _, r2, .int kk, rfl, rfl, SqL.of (k11.at_ _ _ upd_same (by simpa using qb)), atI_of r20 hk, ?_⟩
              have P13 := (P12.draw B11 k11 (by simp) tb Rb Ub pb).mono (ms' := [W, G, b, R, U]) (by simp)
              have hW11 := k11.at_ _ _ ((Kp.new (ms := []) (o := .lst [V.int 1, V.int 1, V.int 2, V.int 3, V.int 100]) hq).at_ _ _ hW9 (fun z => nomatch z)) (by simpa using Wb)
              have hG11 := k11.at_ _ _ ((Kp.new (ms := []) (o := .lst [V.int 1, V.int 1, V.int 2, V.int 3, V.int 100]) hq).at_ _ _ hG10 (fun z => nomatch z)) (by simpa using Gb)
              refine ⟨_, rfl, _, rfl, _, rfl, _, rfl, _, _, rfl, .inl ⟨_, SqL.of P13.hU, rfl⟩, b, c, ((us.map V.str).length : Nat), rfl, P13.bag, by rw [List.length_map]; omega, by rw [List.length_map]; omega, fun v H12 v0 v1 B12 k12 => ?_⟩
              rw [List.length_map] at v1
              have P14 := P13.draw B12 k12 (by simp) tb Rb Ub pb
              have hW12 := k12.at_ _ _ hW11 (by simpa using Wb)
              have hG12 := k12.at_ _ _ hG11 (by simpa using Gb)
              obtain ⟨w1, hw1⟩ : ∃ w1, us[v.toNat]? = some w1 := ⟨_, List.getElem?_eq_getElem (by omega)⟩
              have w1u := List.mem_of_getElem? hw1
              refine ⟨U, _, v, .str w1, rfl, rfl, SqL.of P14.hU, atI_of v0 (by rw [List.getElem?_map, hw1]; rfl), ?_⟩
              refine ⟨W, _, rfl, .inl ⟨_, .inr w1, hW12, rfl, by rw [show (pwKv pw).length = pw.length from List.length_map ..]; exact small1000 (by omega), rfl⟩, ?_⟩
              rw [putP_kv]
              have kW : Kp [W] H12 (upd H12 W (.dK (pwKv (putP pw w1 kk)))) := Kp.set hW12 (fun _ z => by cases z) (by simp)
              refine ⟨⟨_, rfl⟩, putP pw w1 kk, ?_, upd_same, putP_ok okw w1u (by omega) (by omega), kW.at_ _ _ hG12 (by simpa using GW), P14.own hW12 (fun _ z => by cases z) hWH (by simp) Wb Wc (ne_t hWH) RW UW pW⟩
              unfold putP
              split
              · rw [List.length_map]; omega
              · rw [List.length_append, List.length_singleton]; omega
            · rintro σ H9 ⟨⟨o7, rfl⟩, pw, lpw, hW9, okw, hG10, P11⟩
              exact ⟨⟨_, rfl⟩, pw, hW9, okw, hG10, P11⟩
          · exact ⟨⟨_, rfl⟩, [], upd_same, ⟨List.nodup_nil, (fun q h => nomatch h)⟩, hG9, P9⟩
        · rintro σ H8 ⟨⟨o7, rfl⟩, pw, hW8, okw, hG8, P10⟩
          refine ⟨_, rfl, _, rfl, _, rfl, by show 3 ≤ sizeLine; decide, fun q hq => ?_⟩
          have P11 := P10.fresh (o := .tup [.ref R, .ref G, .ref W]) hq
          have kq : Kp [] H8 (upd H8 q (.tup [.ref R, .ref G, .ref W])) := Kp.new hq
          exact k q R G W ps g pw _ upd_same ⟨⟨zs, P11.hR, P11.raw.mono (by simp)⟩, by simpa using Rb, kq.at_ _ _ hG8 (fun z => nomatch z), by simpa using Gb, kq.at_ _ _ hW8 (fun z => nomatch z), by simpa using Wb, okP, ⟨lg3, okg, fun s hs => usn s (gin s hs)⟩, okw.mono usn⟩ txp (by omega) P11.bag P11.kp hRH hGH hWH
end
end Fm

namespace Fm
open PySem PySem.Spec PyProof.Rows L2
/-! ### told as due -/
inductive Tsi : PyData → Prop
  | int (i : Int) : Tsi (.int i)
  | str (s : Str) : Tsi (.str s)
  | tup {ds : List PyData} : (∀ d ∈ ds, Tsi d) → Tsi (.tuple ds)
theorem tsi_key : ∀ k : Key, Tsi (keyD k)
  | .inl i => .int i
  | .inr s => .str s
theorem tsi_syms (ks : List Key) : Tsi (dSyms ks) := .tup fun d hd => by
  obtain ⟨k, _, rfl⟩ := List.mem_map.mp hd
  exact tsi_key k
theorem tsi_prs (ps : List (Str × List Key)) : Tsi (.tuple (ps.map dPR)) := .tup fun d hd => by
  obtain ⟨r, _, rfl⟩ := List.mem_map.mp hd
  refine .tup fun e he => ?_
  rcases List.mem_cons.mp he with rfl | he
  · exact .str _
  · rw [List.mem_singleton.mp he]; exact tsi_syms _
theorem tsi_pws (ps : List (Str × Int)) : Tsi (.tuple (ps.map dPow)) := .tup fun d hd => by
  obtain ⟨r, _, rfl⟩ := List.mem_map.mp hd
  refine .tup fun e he => ?_
  rcases List.mem_cons.mp he with rfl | he
  · exact .str _
  · rw [List.mem_singleton.mp he]; exact .int _
def spSame (n : Nat) : Sp := fun vs H Q _ => ∃ (x y : V) (d : PyData), vs = [x, y] ∧ Im H n x d ∧ Im H n y d ∧ Tsi d ∧ ∀ H', Kp [] H H' → Q (.bl true) H'
def spSameB : Nat → Sp
  | 0 => fun _ _ _ _ => False
  | n + 1 => spSame n
theorem iteNS' {c : Bool} {A B : Prop} (h : c = false) (k : B) : if c = true then A else B := by rw [h]; exact iteF k
section
variable {P : Program} {w : World} {K : PySem.W.Frag} {mg : Str → Option Value} {base : Heap}
theorem step_same (B : Bi mg) (D : Dfn K mg "_law_same" s__law_same ["_law_actual", "_law_due_here"]) (n : Nat) (G_same : Has P w K mg base CX0 "_law_same" ["_law_actual", "_law_due_here"] n (spSameB n)) :
    Has P w K mg base CX0 "_law_same" ["_law_actual", "_law_due_here"] (n + 1) (spSame n) := by
  refine D.has sc__law_same (fun vs H Q E h => ?_) (fun f cdv A outer s H vs Q E hr h => ?_)
  · obtain ⟨x, y, d, rfl, _⟩ := h; rfl
  · obtain ⟨x, y, d, rfl, hx, hy, td, k⟩ := h
    have hu := hu_of hr
    refine ⟨_, (pss_cons (ps_if (PW.pt (pw_or (pt_val (pe_callB call_isi (by rfl) B.isinstance (by decide +kernel) (pa_cons (pv 1) (pa_cons (pe_bltn (v := .ty "tuple") (by rfl) B.tuple (by decide +kernel) rfl) pa_nil)))) (pw_or1 (pt_val (pe_callB call_isi (by rfl) B.isinstance (by decide +kernel) (pa_cons (pv 1) (pa_cons (pe_bltn (v := .ty "list") (by rfl) B.list (by decide +kernel) rfl) pa_nil)))))))
  (pss_cons (ps_if (PW.pt (pw_or (pt_cmpR op_ne (pe_callB call_isi (by rfl) B.isinstance (by decide +kernel) (pa_cons (pv 1) (pa_cons (pe_bltn (v := .ty "tuple") (by rfl) B.tuple (by decide +kernel) rfl) pa_nil))) (pe_callB call_isi (by rfl) B.isinstance (by decide +kernel) (pa_cons (pv 0) (pa_cons (pe_bltn (v := .ty "tuple") (by rfl) B.tuple (by decide +kernel) rfl) pa_nil))) (nomark _)) (pw_or1 (pt_cmpR op_ne (pe_callB call_isi (by rfl) B.isinstance (by decide +kernel) (pa_cons (pv 1) (pa_cons (pe_bltn (v := .ty "list") (by rfl) B.list (by decide +kernel) rfl) pa_nil))) (pe_callB call_isi (by rfl) B.isinstance (by decide +kernel) (pa_cons (pv 0) (pa_cons (pe_bltn (v := .ty "list") (by rfl) B.list (by decide +kernel) rfl) pa_nil))) (nomark _)))))
  (pss_one (ps_ret pe_bl))
  pss_nil)
  (pss_cons (ps_if (pt_cmpR op_ne (pe_callB call_len (by rfl) B.len PySem.boot_len (pa_cons (pv 0) pa_nil)) (pe_callB call_len (by rfl) B.len PySem.boot_len (pa_cons (pv 1) pa_nil)) (nomark _))
  (pss_one (ps_ret pe_bl))
  pss_nil)
  (pss_cons (ps_for PassesOwn.never rfl (pi_range1 rfl B.range (pa_cons (pe_callB call_len (by rfl) B.len PySem.boot_len (pa_cons (pv 1) pa_nil)) pa_nil)) (pg_name (i := 2) sc__law_same.nd rfl (by first | exact Or.inl rfl | exact Or.inr rfl))
  (pss_one (ps_if (pt_not (pt_val (pe_has G_same hr (pa_cons (pe_ix (r := rIxT K) ix_tup (pv 0) (pv 2) (fun _ _ => rfl)) (pa_cons (pe_ix (r := rIxT K) ix_tup (pv 1) (pv 2) (fun _ _ => rfl)) pa_nil)))))
  (pss_one (ps_ret pe_bl))
  pss_nil)))
  (pss_one (ps_ret pe_bl)))))
  pss_nil)
  (pss_cons (ps_if (pt_val (pe_callB call_isi (by rfl) B.isinstance (by decide +kernel) (pa_cons (pv 1) (pa_cons (pe_bltn (v := .ty "str") (by rfl) B.str (by decide +kernel) rfl) pa_nil))))
  (pss_one (ps_ret (pe_and (pe_callB call_isi (by rfl) B.isinstance (by decide +kernel) (pa_cons (pv 0) (pa_cons (pe_bltn (v := .ty "str") (by rfl) B.str (by decide +kernel) rfl) pa_nil))) (pe_one (pe_cmpR op_eq (pv 0) (pv 1) (nomark _))))))
  pss_nil)
  (pss_one (ps_ret (pe_and (pe_callB call_isi (by rfl) B.isinstance (by decide +kernel) (pa_cons (pv 0) (pa_cons (pe_bltn (v := .ty "int") (by rfl) B.int (by decide +kernel) rfl) pa_nil))) (pe_and (pe_not (pe_callB call_isi (by rfl) B.isinstance (by decide +kernel) (pa_cons (pv 0) (pa_cons (pe_bltn (v := .ty "bool") (by rfl) B.bool (by decide +kernel) rfl) pa_nil)))) (pe_one (pe_cmpR op_eq (pv 0) (pv 1) (nomark _))))))))), ?_⟩
    cases d with
    | tuple ds =>
      cases hx with
      | @tup m p xs _ rx lx ax =>
        cases hy with
        | @tup _ p' ys _ ry ly ay =>
          have hx : Im H (m + 1) (.ref p) (.tuple ds) := .tup rx lx ax
          have hy : Im H (m + 1) (.ref p') (.tuple ds) := .tup ry ly ay
          have hl : xs.length = ys.length := ax.len.trans ay.len.symm
          have tds : ∀ d ∈ ds, Tsi d := by cases td; assumption
          refine ⟨_, rfl, _, _, _, _, _, rfl, .ty _, hy.ty, kit_ty (kb_tuple _), _, rfl, iteT ?_⟩
          refine ⟨_, rfl, _, _, _, _, _, rfl, .ty _, hy.ty, kit_ty (kb_tuple _), _, rfl, _, _, _, _, _, rfl, .ty _, hx.ty, kit_ty (kb_tuple _), rfl, _, rfl, iteF ?_⟩
          refine ⟨_, rfl, _, _, _, _, _, rfl, .ty _, hy.ty, kit_ty (kb_list _), _, rfl, _, _, _, _, _, rfl, .ty _, hx.ty, kit_ty (kb_list _), rfl, _, rfl, iteF ?_⟩
          refine ⟨_, rfl, _, _, rfl, .inr ⟨_, .inl (.inl rx), rfl⟩, _, rfl, _, _, rfl, .inr ⟨_, .inl (.inl ry), rfl⟩, rfl, _, rfl, ?_⟩
          refine iteNS' (by rw [hl]; simp) ?_
          refine ⟨_, rfl, _, _, rfl, .inr ⟨_, .inl (.inl ry), rfl⟩, (ys.length : Int), rfl, by omega, (by have := ly.1; omega), ?_⟩
          refine for_range (lo := 0) (n := (ys.length : Int).toNat) (fun i σ H' => (∃ o, σ = [some (.ref p), some (.ref p'), o]) ∧ Kp [] H H') ⟨⟨_, rfl⟩, Kp.refl _⟩ ?_ ?_
          · rintro i σ H2 hi ⟨⟨o, rfl⟩, k2⟩
            have hi' : i < xs.length := by omega
            obtain ⟨u, hu1⟩ : ∃ u, xs[i]? = some u := ⟨xs[i], List.getElem?_eq_getElem hi'⟩
            obtain ⟨d, hd, du⟩ := ax.getV hu1
            obtain ⟨v, hv1, dv⟩ := ay.get hd
            have e0 : (0 + (i : Int)).toNat = i := by omega
            refine ⟨_, rfl, _, rfl, p, xs, _, u, rfl, rfl, .inl (.inl (k2.tp _ _ rx)), atI_of (by omega) (by rw [e0]; exact hu1), ?_⟩
            refine ⟨_, rfl, _, rfl, p', ys, _, v, rfl, rfl, .inl (.inl (k2.tp _ _ ry)), atI_of (by omega) (by rw [e0]; exact hv1), ?_⟩
            exact ⟨u, v, d, rfl, Im.kp k2 du, Im.kp k2 dv, tds d (List.mem_of_getElem? hd), fun H3 k3 => ⟨_, rfl, iteF ⟨⟨_, rfl⟩, k2.trans k3⟩⟩⟩
          · rintro σ H2 ⟨⟨o, rfl⟩, k2⟩
            exact k H2 k2
    | int i =>
      cases hx
      cases hy
      have hi : Im H 0 (.int i) (.int i) := .int i
      refine ⟨_, rfl, _, _, _, _, _, rfl, .ty _, hi.ty, kit_ty (kb_tuple _), _, rfl, iteF ?_⟩
      refine ⟨_, rfl, _, _, _, _, _, rfl, .ty _, hi.ty, kit_ty (kb_list _), _, rfl, iteF ?_⟩
      refine ⟨_, rfl, _, _, _, _, _, rfl, .ty _, hi.ty, kit_ty (kb_str _), _, rfl, iteF ?_⟩
      refine ⟨_, rfl, _, _, _, _, _, rfl, .ty _, hi.ty, kit_ty (kb_int _), _, rfl, iteT ?_⟩
      refine ⟨_, rfl, _, _, _, _, _, rfl, .ty _, hi.ty, kit_ty (kb_bool _), _, rfl, _, rfl, iteT ?_⟩
      refine ⟨_, rfl, _, rfl, rfl, ?_⟩
      rw [decide_eq_true rfl]
      exact k H (Kp.refl _)
    | str z =>
      cases hx with
      | str _ hz =>
      cases hy
      have hi : Im H 0 (.str z) (.str z) := .str z hz
      refine ⟨_, rfl, _, _, _, _, _, rfl, .ty _, hi.ty, kit_ty (kb_tuple _), _, rfl, iteF ?_⟩
      refine ⟨_, rfl, _, _, _, _, _, rfl, .ty _, hi.ty, kit_ty (kb_list _), _, rfl, iteF ?_⟩
      refine ⟨_, rfl, _, _, _, _, _, rfl, .ty _, hi.ty, kit_ty (kb_str _), _, rfl, iteT ?_⟩
      refine ⟨_, rfl, _, _, _, _, _, rfl, .ty _, hi.ty, kit_ty (kb_str _), _, rfl, iteT ?_⟩
      refine ⟨_, rfl, _, rfl, rfl, ?_⟩
      rw [decide_eq_true rfl]
      exact k H (Kp.refl _)
    | _ => exact (by cases td)
theorem ok_same (B : Bi mg) (D : Dfn K mg "_law_same" s__law_same ["_law_actual", "_law_due_here"]) : ∀ n : Nat, Has P w K mg base CX0 "_law_same" ["_law_actual", "_law_due_here"] (n + 1) (spSame n)
  | 0 => step_same B D 0 D.none
  | n + 1 => step_same B D (n + 1) (ok_same B D n)
/-- the pattern tells what is due -/
def spIs (C : Addr) : Sp := fun vs H Q _ => ∃ (p : Addr) (v : V) (T : Pat), vs = [.ref p, v] ∧ PatAt C H p T ∧ Im H 4 v (dPat T) ∧ ∀ H', Kp [] H H' → Q (.bl true) H'
theorem ok_is {C : Addr} (B : Bi mg) (U : PatCls K mg C) (D : Dfn K mg "_law_is" s__law_is ["_law_pattern_here", "_law_due_here"]) (G_same : Has P w K mg base CX0 "_law_same" ["_law_actual", "_law_due_here"] 4 (spSame 3)) : Has P w K mg base CX0 "_law_is" ["_law_pattern_here", "_law_due_here"] 5 (spIs C) := by
  refine D.has sc__law_is (fun vs H Q E h => ?_) (fun f cdv A outer s H vs Q E hr h => ?_)
  · obtain ⟨p, v, T, rfl, _⟩ := h; rfl
  · obtain ⟨p, v, T, rfl, ⟨dx, v1, v2, v3, hp, i1, i2, i3⟩, iv, k⟩ := h
    have hu := hu_of hr
    refine ⟨_, (pss_cons (ps_if (PW.pt (pw_or (pt_not (pt_val (pe_has G_same (hr.mono (by omega)) (pa_cons (pe_fld (pv 0) rfl) (pa_cons (pe_ix (r := rIxT K) ix_tup (pv 1) pe_int (fun _ _ => rfl)) pa_nil))))) (pw_or1 (pt_not (pt_val (pe_has G_same (hr.mono (by omega)) (pa_cons (pe_fld (pv 0) rfl) (pa_cons (pe_ix (r := rIxT K) ix_tup (pv 1) pe_int (fun _ _ => rfl)) pa_nil))))))))
  (pss_one (ps_ret pe_bl))
  pss_nil)
  (pss_one (ps_ret (pe_has G_same (hr.mono (by omega)) (pa_cons (pe_fld (pv 0) rfl) (pa_cons (pe_ix (r := rIxT K) ix_tup (pv 1) pe_int (fun _ _ => rfl)) pa_nil)))))), ?_⟩
    cases iv with
    | @tup m a xs _ ra la aa =>
      cases aa with
      | @cons _ w1 ws1 _ _ b1 aa =>
        cases aa with
        | @cons _ w2 ws2 _ _ b2 aa =>
          cases aa with
          | @cons _ w3 ws3 _ _ b3 aa =>
            cases aa
            refine ⟨_, rfl, p, C, dx, _, v1, rfl, hp, U.cl, U.nR, rfl, _, rfl, a, _, 0, w1, rfl, rfl, .inl (.inl ra), rfl, ?_⟩
            refine ⟨v1, w1, _, rfl, i1, b1, tsi_prs _, fun H1 k1 => ⟨_, rfl, iteF ?_⟩⟩
            have hp1 := k1.at_ _ _ hp (fun z => nomatch z)
            refine ⟨_, rfl, p, C, dx, _, v2, rfl, hp1, U.cl, U.nG, rfl, _, rfl, a, _, 1, w2, rfl, rfl, .inl (.inl (k1.tp _ _ ra)), rfl, ?_⟩
            refine ⟨v2, w2, _, rfl, (Im.kp k1 i2).mono (by decide), Im.kp k1 b2, tsi_syms _, fun H2 k2 => ⟨_, rfl, iteF ?_⟩⟩
            have k12 := k1.trans k2
            have hp2 := k12.at_ _ _ hp (fun z => nomatch z)
            refine ⟨_, rfl, p, C, dx, _, v3, rfl, hp2, U.cl, U.nP, rfl, _, rfl, a, _, 2, w3, rfl, rfl, .inl (.inl (k12.tp _ _ ra)), rfl, ?_⟩
            exact ⟨v3, w3, _, rfl, (Im.kp k12 i3).mono (by decide), Im.kp k12 b3, tsi_pws _, fun H3 k3 => k H3 (k12.trans k3)⟩
end
end Fm

namespace Fm
open PySem PySem.Spec PyProof.Rows L2
/-! ### what is handed in -/
def RowX (H : Hp) (q : Addr) (xs : List V) : Prop := H q = some (.lst xs) ∨ H q = some (.tup xs)
theorem RowX.rw {H : Hp} {q : Addr} {xs : List V} (h : RowX H q xs) : RwAt H q xs := h.imp .inl id
theorem RowX.kp {ms : List Addr} {H H' : Hp} {q : Addr} {xs : List V} (h : RowX H q xs) (k : Kp ms H H') (hm : q ∉ ms) : RowX H' q xs := h.imp (fun h => k.at_ _ _ h hm) (fun h => k.tp _ _ h)
def spFormed : Sp := fun vs H Q _ => ∃ (b c a : Addr) (xs : List V), vs = [.ref b, .ref a] ∧ Bag H b c ∧ H a = some (.lst xs) ∧ a ≠ b ∧ ∀ q H', Bag H' b c → Kp [b] H H' → H q = none → RowX H' q xs → Q (.ref q) H'
/-- rows: tuples of a name and a list or a tuple, the lists new -/
inductive GRows (F : Addr → Prop) (H : Hp) : List V → List (Str × List Key) → Prop
  | nil : GRows F H [] []
  | cons {a b : Addr} {r : Str × List Key} {xs : List V} {ps : List (Str × List Key)} : H a = some (.tup [.str r.1, .ref b]) → RowX H b (r.2.map kV) → F b → GRows F H xs ps → GRows F H (.ref a :: xs) (r :: ps)
theorem GRows.len {F : Addr → Prop} {H : Hp} : ∀ {xs : List V} {ps : List (Str × List Key)}, GRows F H xs ps → xs.length = ps.length
  | _, _, .nil => rfl
  | _, _, .cons _ _ _ d => congrArg (· + 1) d.len
theorem GRows.kp {F : Addr → Prop} {ms : List Addr} {H H' : Hp} (k : Kp ms H H') (hm : ∀ x ∈ ms, ¬ F x) : ∀ {xs : List V} {ps : List (Str × List Key)}, GRows F H xs ps → GRows F H' xs ps
  | _, _, .nil => .nil
  | _, _, .cons a b c d => .cons (k.tp _ _ a) (b.kp k fun z => hm _ z c) c (d.kp k hm)
theorem GRows.snoc {F : Addr → Prop} {H : Hp} {a b : Addr} {r : Str × List Key} (h1 : H a = some (.tup [.str r.1, .ref b])) (h2 : RowX H b (r.2.map kV)) (h3 : F b) : ∀ {xs : List V} {ps : List (Str × List Key)}, GRows F H xs ps → GRows F H (xs ++ [.ref a]) (ps ++ [r])
  | _, _, .nil => .cons h1 h2 h3 .nil
  | _, _, .cons a b c d => .cons a b c (d.snoc h1 h2 h3)
theorem GRows.get {F : Addr → Prop} {H : Hp} : ∀ {xs : List V} {ps : List (Str × List Key)}, GRows F H xs ps → ∀ {i : Nat} {u : V}, xs[i]? = some u → ∃ a b r, u = .ref a ∧ ps[i]? = some r ∧ H a = some (.tup [.str r.1, .ref b]) ∧ RowX H b (r.2.map kV) ∧ F b
  | _, _, .cons a b c d, 0, u, h => by cases h; exact ⟨_, _, _, rfl, rfl, a, b, c⟩
  | _, _, .cons a b c d, i + 1, u, h => d.get (i := i) h
theorem GRows.imp {F F' : Addr → Prop} {H : Hp} (h : ∀ a, F a → F' a) : ∀ {xs : List V} {ps : List (Str × List Key)}, GRows F H xs ps → GRows F' H xs ps
  | _, _, .nil => .nil
  | _, _, .cons a b c d => .cons a b (h _ c) (d.imp h)
structure GivenAt (F : Addr → Prop) (H : Hp) (A X Y W : Addr) (ps : List (Str × List Key)) (g : List Key) (pw : List (Str × Int)) : Prop where
  all : H A = some (.lst [.ref X, .ref Y, .ref W])
  rows : ∃ xs, RowX H X xs ∧ GRows F H xs ps
  grp : RowX H Y (g.map kV)
  pws : H W = some (.dK (pwKv pw))
  fA : F A
  fX : F X
  fY : F Y
  fW : F W
def spGiven : Sp := fun vs H Q _ => ∃ (b c R G W : Addr) (ps : List (Str × List Key)) (g : List Key) (pw : List (Str × Int)), vs = [.ref b, .ref R, .ref G, .ref W] ∧ Bag H b c ∧ RawAt [b] H R G W ps g pw ∧ ∀ A X Y Z H', Bag H' b c → Kp [b] H H' → GivenAt (fun a => H a = none) H' A X Y Z ps g pw → X ≠ Y → A ≠ X → A ≠ Y → Q (.ref A) H'
section
variable {P : Program} {w : World} {K : PySem.W.Frag} {mg : Str → Option Value} {base : Heap}
theorem ok_formed (B : Bi mg) (D : Dfn K mg "_law_formed" s__law_formed ["_law_bag_here", "_law_row"]) (G_pick : Has P w K mg base CX0 "_law_pick" ["_law_bag_here", "_law_many"] 1 spPick) : Has P w K mg base CX0 "_law_formed" ["_law_bag_here", "_law_row"] 2 spFormed := by
  refine D.has sc__law_formed (fun vs H Q E h => ?_) (fun f cdv A outer s H vs Q E hr h => ?_)
  · obtain ⟨b, c, a, xs, rfl, _⟩ := h; rfl
  · obtain ⟨b, c, a, xs, rfl, BG, ha, ab, k⟩ := h
    refine ⟨_, (pss_cons (ps_if (pt_cmpR op_eq (pe_has G_pick (hr.mono (by omega)) (pa_cons (pv 0) (pa_cons pe_int pa_nil))) pe_int (nomark _))
  (pss_one (ps_ret (pe_callTy call_list_of (by rfl) B.list (by decide +kernel) (pa_cons (pv 1) pa_nil))))
  pss_nil)
  (pss_one (ps_ret (pe_callTy call_tuple_of (by rfl) B.tuple (by decide +kernel) (pa_cons (pv 1) pa_nil))))), ?_⟩
    refine ⟨_, rfl, b, c, 2, rfl, BG, by decide, by decide, fun r H1 r0 r1 B1 k1 => ⟨rfl, _, rfl, ?_⟩⟩
    have ha1 := k1.at_ _ _ ha (by simpa using ab)
    refine ite2 (fun _ => ?_) (fun _ => ?_)
    · exact ⟨_, rfl, a, xs, rfl, .inl (SqL.of ha1), fun l hl => k l _ (B1.keep0 (Kp.new hl)) (k1.snoc hl) (k1.freeB B1 hl) (.inl upd_same)⟩
    · exact ⟨_, rfl, a, xs, rfl, .inl ⟨SqL.of ha1, fun l hl => k l _ (B1.keep0 (Kp.new hl)) (k1.snoc hl) (k1.freeB B1 hl) (.inr upd_same)⟩⟩
theorem ok_given (B : Bi mg) (D : Dfn K mg "_law_given" s__law_given ["_law_bag_here", "_law_rows", "_law_group", "_law_powers"]) (G_formed : Has P w K mg base CX0 "_law_formed" ["_law_bag_here", "_law_row"] 2 spFormed) : Has P w K mg base CX0 "_law_given" ["_law_bag_here", "_law_rows", "_law_group", "_law_powers"] 3 spGiven := by
  refine D.has sc__law_given (fun vs H Q E h => ?_) (fun f cdv A outer s H vs Q E hr h => ?_)
  · obtain ⟨b, c, R, G, W, ps, g, pw, rfl, _⟩ := h; rfl
  · obtain ⟨b, c, R, G, W, ps, g, pw, rfl, BG, ⟨⟨xs, hR, RX⟩, Rb, hG, Gb, hW, Wb, okp, okg, okw⟩, k⟩ := h
    have hu := hu_of hr
    refine ⟨_, (pss_cons (ps_setLc (i := 4) (own := [("_law_table", 5), ("_law_symbols", 6)]) (g := gTup K 2 (gCons (gName 5) (gCons (gName 6) gNil))) (by rfl) sc__law_given.nd rfl rfl (sw_true rfl rfl rfl (by decide +kernel)) (pi_list (pv 1)) (blkOk_by (own := [("_law_table", 5), ("_law_symbols", 6)]) (N := N__law_given) (sc := defScope s__law_given) (by decide +kernel)) (fun _ _ _ _ _ => (pg_tup rfl (pgs_cons (pg_name (i := 5) sc__law_given.nd rfl (by first | exact Or.inl rfl | exact Or.inr rfl)) (pgs_cons (pg_name (i := 6) sc__law_given.nd rfl (by first | exact Or.inl rfl | exact Or.inr rfl)) pgs_nil)))) (fun _ _ _ _ _ => pts_nil) (fun _ _ _ _ _ => (pe_tup (pa_cons (pv 5) (pa_cons (pe_has G_formed (hr.mono (by omega)) (pa_cons (pv 0) (pa_cons (pv 6) pa_nil))) pa_nil)))))
  (pss_one (ps_ret (pe_lst (pa_cons (pe_has G_formed (hr.mono (by omega)) (pa_cons (pv 0) (pa_cons (pv 4) pa_nil))) (pa_cons (pe_has G_formed (hr.mono (by omega)) (pa_cons (pv 0) (pa_cons (pv 2) pa_nil))) (pa_cons (pe_callTy call_dictD (by rfl) B.dict (by decide +kernel) (pa_cons (pv 3) pa_nil)) pa_nil))))))), ?_⟩
    have ok1 := okp.1
    have el := RX.len
    have w24 := okw.len
    have n24 := namesP_len okp
    refine ⟨_, rfl, R, rfl, ⟨_, SqL.of hR⟩, fun L hL => ?_⟩
    obtain ⟨Lb, Lc⟩ := BG.new hL
    refine lc_it (walk_list (xs := xs)) (fun j H' => ∃ zs, H' L = some (.lst zs) ∧ zs.length = j ∧ GRows (fun a => H a = none ∧ a ≠ L) H' zs (ps.take j) ∧ Bag H' b c ∧ Kp [b] H H') ⟨[], upd_same, rfl, .nil, BG.keep0 (Kp.new hL), Kp.new hL⟩ (fun j H' _ h => let ⟨_, _, _, _, _, k2⟩ := h; SqL.of (k2.at_ _ _ hR Rb)) (fun j u H2 H3 hj h2 hy => ?_) (fun H2 h2 => ?_)
    · obtain ⟨zs, h2, lz, gz, B2, k2⟩ := h2
      obtain ⟨rfl, hu1⟩ := hy
      obtain ⟨a, s1, r, rfl, er, ha, hs1, sb⟩ := (RX.kp k2).get hu1
      refine ⟨a, _, rfl, SqT.of ha, rfl, _, _, rfl, _, _, rfl, rfl, ?_⟩
      refine ⟨rfl, _, rfl, _, rfl, _, rfl, b, c, s1, _, rfl, B2, hs1, by simpa using sb, fun q H4 B4 k4 hq hx => ⟨by show 2 ≤ sizeLine; decide, fun t ht => ?_⟩⟩
      have h4 := k4.at_ _ _ h2 (by simpa using Lb)
      have ht4 : upd H4 t (.tup [.str r.1, .ref q]) L = some (.lst zs) := (Kp.new (ms := []) ht).at_ _ _ h4 (fun z => nomatch z)
      have qL : q ≠ L := fun z => by rw [z, h2] at hq; cases hq
      have hqH : H q = none := k2.freeB B2 hq
      refine ⟨zs, ht4, by rw [lz]; exact small1000 (by omega), zs ++ [.ref t], upd_same, by simp [lz], ?_, ?_, ((k2.trans k4).snoc ht).late hL⟩
      · rw [take_snoc er]
        have kL : Kp [L] (upd H4 t (.tup [.str r.1, .ref q])) (upd (upd H4 t (.tup [.str r.1, .ref q])) L (.lst (zs ++ [.ref t]))) := Kp.updL ht4 (by simp)
        have ht7 := kL.tp _ _ (upd_same (H := H4) (a := t))
        refine GRows.snoc (r := r) ht7 ((hx.kp (ms := []) (Kp.new ht) (fun z => nomatch z)).kp kL (by simpa using qL)) ⟨hqH, qL⟩ ?_
        refine (((gz.kp k4 ?_).kp (ms := []) (Kp.new ht) (fun x hx => nomatch hx)).kp kL ?_)
        · intro x hx
          rw [List.mem_singleton.mp hx]
          rintro ⟨e, _⟩
          obtain ⟨o, ho⟩ := BG.someB
          rw [ho] at e; cases e
        · intro x hx
          rw [List.mem_singleton.mp hx]
          rintro ⟨_, e⟩
          exact e rfl
      · exact (B4.keep0 (Kp.new ht)).keep (ms := [L]) (Kp.updL ht4 (by simp)) (by simpa using Ne.symm Lb) (by simpa using Ne.symm Lc)
    · obtain ⟨zs, h2, lz, gz, B2, k2⟩ := h2
      rw [el, List.take_length] at gz
      refine ⟨_, rfl, _, rfl, b, c, L, zs, rfl, B2, h2, Lb, fun X H3 B3 k3 hX hx3 => ?_⟩
      have hG3 := (k2.trans k3).at_ _ _ hG Gb
      refine ⟨_, rfl, _, rfl, b, c, G, _, rfl, B3, hG3, by simpa using Gb, fun Y H4 B4 k4 hY hy4 => ?_⟩
      have hW4 := ((k2.trans k3).trans k4).at_ _ _ hW Wb
      refine ⟨_, rfl, W, _, rfl, .inl hW4, fun Z hZ => ⟨by show 3 ≤ sizeLine; decide, fun A hA => ?_⟩⟩
      have k04 := (k2.trans k3).trans k4
      have kf : Kp [] H4 (upd (upd H4 Z (.dK (pwKv pw))) A (.lst [.ref X, .ref Y, .ref Z])) := (Kp.new hZ).snoc hA
      have bF : ¬ (H b = none) := fun e => by
        obtain ⟨o, ho⟩ := BG.someB
        rw [ho] at e; cases e
      have bm : ∀ x ∈ [b], ¬ (H x = none ∧ x ≠ L) := fun x hx => by rw [List.mem_singleton.mp hx]; exact fun z => bF z.1
      have XH : H X = none := k2.freeB B2 hX
      have YH : H Y = none := (k2.trans k3).freeB B3 hY
      have Xb : X ∉ [b] := fun z => bF (by have z : X = b := by simpa using z
                                           rw [← z]; exact XH)
      have hx4 := hx3.kp k4 Xb
      have XY : X ≠ Y := fun z => by
        rcases hx3 with e | e <;> rw [z, hY] at e <;> cases e
      have some4 : ∀ {q : Addr} {ys : List V}, RowX H4 q ys → q ≠ Z ∧ q ≠ A := fun {q ys} h => by
        have e1 : H4 q ≠ none := by rcases h with e | e <;> rw [e] <;> simp
        have qZ : q ≠ Z := fun z => e1 (by rw [z]; exact hZ)
        refine ⟨qZ, fun z => ?_⟩
        rw [← z, upd_ne qZ] at hA
        exact e1 hA
      have AZ : A ≠ Z := fun z => by rw [z, upd_same] at hA; cases hA
      have hA4 : H4 A = none := by rw [upd_ne AZ] at hA; exact hA
      refine k A X Y Z _ (B4.keep0 kf) (k04.trans kf.zero) ⟨upd_same, ⟨zs, hx4.kp kf (fun z => nomatch z), ?_⟩, hy4.kp kf (fun z => nomatch z), by rw [upd_ne (Ne.symm AZ)]; exact upd_same, k04.freeB B4 hA4, XH, YH, k04.freeB B4 hZ⟩ XY (Ne.symm (some4 hx4).2) (Ne.symm (some4 hy4).2)
      exact (((gz.kp k3 bm).kp k4 bm).kp kf (fun x hx => nomatch hx)).imp fun a h => h.1
end
end Fm

namespace Fm
open PySem PySem.Spec PyProof.Rows L2
/-! ### the unknowns turned into other strings: plain -/
def kvFrom (f : Nat → Str) (j : Nat) (ns : List Str) : List (Key × V) := (ns.zipIdx j).map fun p => (.inr p.1, .str (f p.2))
abbrev kvF (f : Nat → Str) (ns : List Str) : List (Key × V) := kvFrom f 0 ns
theorem kvF_len (f : Nat → Str) (j : Nat) (ns : List Str) : (kvFrom f j ns).length = ns.length := by unfold kvFrom; rw [List.length_map, List.length_zipIdx]
theorem kvF_snoc (f : Nat → Str) (ns : List Str) (s : Str) : kvF f (ns ++ [s]) = kvF f ns ++ [(.inr s, .str (f ns.length))] := by
  unfold kvF kvFrom
  rw [List.zipIdx_append, List.map_append, Nat.zero_add]; rfl
theorem valV_kvFrom (f : Nat → Str) (s : Str) : ∀ (ns : List Str) (j : Nat), valV (kvFrom f j ns) (.inr s) = if s ∈ ns then some (.str (f (j + ns.idxOf s))) else none
  | [], _ => rfl
  | a :: ns, j => by
    have ih := valV_kvFrom f s ns (j + 1)
    have e : kvFrom f j (a :: ns) = (.inr a, .str (f j)) :: kvFrom f (j + 1) ns := rfl
    rw [e]
    by_cases h : a = s
    · subst h
      unfold valV
      rw [List.find?_cons_of_pos (by simp), if_pos List.mem_cons_self, List.idxOf_cons_self]; rfl
    · have h' : ¬ s = a := fun z => h z.symm
      unfold valV at ih ⊢
      rw [List.find?_cons_of_neg (by simp [h]), ih]
      by_cases hm : s ∈ ns
      · rw [if_pos hm, if_pos (List.mem_cons_of_mem _ hm), show (a :: ns).idxOf s = ns.idxOf s + 1 from (by
          rw [List.idxOf_cons]
          cases e : (a == s) with
          | true => exact absurd (eq_of_beq e) h
          | false => rfl)]
        rw [show j + 1 + ns.idxOf s = j + (ns.idxOf s + 1) by omega]
      · rw [if_neg hm, if_neg (fun z => (List.mem_cons.mp z).elim h' hm)]
theorem valV_kvF (f : Nat → Str) (s : Str) (ns : List Str) : valV (kvF f ns) (.inr s) = if s ∈ ns then some (.str (f (ns.idxOf s))) else none := by
  rw [valV_kvFrom, Nat.zero_add]
/-- what a string is turned into -/
def tn (f : Nat → Str) (ns : List Str) (s : Str) : Str := f (ns.idxOf s)
def tk (f : Nat → Str) (ns : List Str) : Key → Key
  | .inl i => .inl i
  | .inr s => .inr (tn f ns s)
def tr (f : Nat → Str) (ns : List Str) (r : Str × List Key) : Str × List Key := (r.1, r.2.map (tk f ns))
def tp (f : Nat → Str) (ns : List Str) (p : Str × Int) : Str × Int := (tn f ns p.1, p.2)
def Inj24 (f : Nat → Str) : Prop := ∀ i j, i < 24 → j < 24 → f i = f j → i = j
theorem tn_inj {f : Nat → Str} {ns : List Str} (hf : Inj24 f) (hn : ns.length ≤ 24) {s t : Str} (hs : s ∈ ns) (ht : t ∈ ns) (h : tn f ns s = tn f ns t) : s = t := by
  have a := List.idxOf_lt_length_of_mem hs
  have b := List.idxOf_lt_length_of_mem ht
  have e := hf _ _ (by omega) (by omega) h
  have e1 := List.getElem_idxOf a
  have e2 := List.getElem_idxOf b
  rw [← e1, ← e2]
  simp only [e]
theorem idx_map {g : Str → Str} {N : List Str} (hg : ∀ a ∈ N, ∀ b ∈ N, g a = g b → a = b) {s : Str} (hs : s ∈ N) : ∀ {ms : List Str}, (∀ a ∈ ms, a ∈ N) → (ms.map g).idxOf (g s) = ms.idxOf s
  | [], _ => rfl
  | a :: ms, h => by
    rw [List.map_cons, List.idxOf_cons, List.idxOf_cons, idx_map hg hs fun x hx => h x (List.mem_cons_of_mem _ hx)]
    by_cases e : a = s
    · subst e; simp
    · have e' : ¬ g a = g s := fun z => e (hg a (h a List.mem_cons_self) s hs z)
      rw [beq_eq_false_iff_ne.mpr e, beq_eq_false_iff_ne.mpr e']
theorem addN_map {g : Str → Str} {N : List Str} (hg : ∀ a ∈ N, ∀ b ∈ N, g a = g b → a = b) {ms : List Str} (hm : ∀ a ∈ ms, a ∈ N) {s : Str} (hs : s ∈ N) : addN (ms.map g) (.inr (g s)) = (addN ms (.inr s)).map g := by
  rw [addN_inr, addN_inr]
  by_cases h : s ∈ ms
  · rw [if_pos h, if_pos (List.mem_map.mpr ⟨s, h, rfl⟩)]
  · rw [if_neg h, if_neg, List.map_append]; rfl
    intro z
    obtain ⟨x, hx, e⟩ := List.mem_map.mp z
    exact h (hg x (hm x hx) s hs e ▸ hx)
theorem foldN_mem {N : List Str} : ∀ (ks : List Key) {ms : List Str}, (∀ a ∈ ms, a ∈ N) → (∀ s, Sum.inr s ∈ ks → s ∈ N) → ∀ a ∈ ks.foldl addN ms, a ∈ N
  | [], _, h, _ => h
  | k :: ks, ms, h, hk => foldN_mem ks (fun a ha => by
      cases k with
      | inl _ => exact h a ha
      | inr t =>
        rw [addN_inr] at ha
        split at ha
        · exact h a ha
        · rcases List.mem_append.mp ha with q | q
          · exact h a q
          · rw [List.mem_singleton.mp q]; exact hk t List.mem_cons_self) fun s hs => hk s (List.mem_cons_of_mem _ hs)
theorem foldN_map {f : Nat → Str} {N : List Str} (hg : ∀ a ∈ N, ∀ b ∈ N, tn f N a = tn f N b → a = b) : ∀ (ks : List Key) {ms : List Str}, (∀ a ∈ ms, a ∈ N) → (∀ s, Sum.inr s ∈ ks → s ∈ N) → (ks.map (tk f N)).foldl addN (ms.map (tn f N)) = (ks.foldl addN ms).map (tn f N)
  | [], _, _, _ => rfl
  | .inl i :: ks, ms, h, hk => foldN_map hg ks h fun s hs => hk s (List.mem_cons_of_mem _ hs)
  | .inr t :: ks, ms, h, hk => by
    have ht := hk t List.mem_cons_self
    have hk' : ∀ s, Sum.inr s ∈ ks → s ∈ N := fun s hs => hk s (List.mem_cons_of_mem _ hs)
    rw [List.map_cons, List.foldl_cons, List.foldl_cons]
    show List.foldl addN (addN (ms.map (tn f N)) (.inr (tn f N t))) _ = _
    rw [addN_map hg h ht]
    exact foldN_map hg ks (foldN_mem [.inr t] h fun s hs => by rw [Sum.inr.inj (List.mem_singleton.mp hs)]; exact ht) hk'
theorem foldR_map {f : Nat → Str} {N : List Str} (hg : ∀ a ∈ N, ∀ b ∈ N, tn f N a = tn f N b → a = b) : ∀ (ps : List (Str × List Key)) {ms : List Str}, (∀ a ∈ ms, a ∈ N) → (∀ r ∈ ps, ∀ s, Sum.inr s ∈ r.2 → s ∈ N) → (ps.map (tr f N)).foldl addR (ms.map (tn f N)) = (ps.foldl addR ms).map (tn f N)
  | [], _, _, _ => rfl
  | r :: ps, ms, h, hk => by
    rw [List.map_cons, List.foldl_cons, List.foldl_cons]
    show List.foldl addR ((r.2.map (tk f N)).foldl addN (ms.map (tn f N))) _ = _
    rw [foldN_map hg r.2 h (hk r List.mem_cons_self)]
    exact foldR_map hg ps (foldN_mem r.2 h (hk r List.mem_cons_self)) fun x hx => hk x (List.mem_cons_of_mem _ hx)
theorem namesP_tr {f : Nat → Str} {ps : List (Str × List Key)} (hf : Inj24 f) (ok : PsOk ps) : namesP (ps.map (tr f (namesP ps))) = (namesP ps).map (tn f (namesP ps)) :=
  foldR_map (N := namesP ps) (fun a ha b hb e => tn_inj hf (namesP_len ok) ha hb e) ps (ms := []) (fun a h => nomatch h) fun r hr s hs => foldR_in ps [] s r hr hs
theorem ren_tk {f : Nat → Str} {N : List Str} (hf : Inj24 f) (hn : N.length ≤ 24) {k : Key} (h : ∀ s, k = .inr s → s ∈ N) : ren (N.map (tn f N)) (tk f N k) = ren N k := by
  cases k with
  | inl i => rfl
  | inr s =>
    have hs := h s rfl
    show ren (N.map (tn f N)) (.inr (tn f N s)) = _
    rw [ren_inr, ren_inr, if_pos hs, if_pos (List.mem_map.mpr ⟨s, hs, rfl⟩), idx_map (N := N) (fun a ha b hb e => tn_inj hf hn ha hb e) hs (fun a ha => ha)]
theorem canP_tr {f : Nat → Str} {ps : List (Str × List Key)} {g : List Key} {pw : List (Str × Int)} (hf : Inj24 f) (ok : PsOk ps) (hg : ∀ s, Sum.inr s ∈ g → s ∈ namesP ps) (hw : PwOk (namesP ps) pw) : canP (ps.map (tr f (namesP ps))) (g.map (tk f (namesP ps))) (pw.map (tp f (namesP ps))) = canP ps g pw := by
  have hn := namesP_len ok
  have e1 : (ps.map (tr f (namesP ps))).map (renR ((namesP ps).map (tn f (namesP ps)))) = ps.map (renR (namesP ps)) := by
    rw [List.map_map]
    refine List.map_congr_left fun r hr => ?_
    show (r.1, (r.2.map (tk f (namesP ps))).map (ren _)) = (r.1, r.2.map (ren (namesP ps)))
    rw [List.map_map]
    congr 1
    exact List.map_congr_left fun k hk => ren_tk hf hn fun s e => foldR_in ps [] s r hr (e ▸ hk)
  have e2 : (g.map (tk f (namesP ps))).map (ren ((namesP ps).map (tn f (namesP ps)))) = g.map (ren (namesP ps)) := by
    rw [List.map_map]
    exact List.map_congr_left fun k hk => ren_tk hf hn fun s e => hg s (e ▸ hk)
  have e3 : (pw.map (tp f (namesP ps))).map (nmPw ((namesP ps).map (tn f (namesP ps)))) = pw.map (nmPw (namesP ps)) := by
    rw [List.map_map]
    refine List.map_congr_left fun p hp => ?_
    show (ltr (((namesP ps).map (tn f (namesP ps))).idxOf (tn f (namesP ps) p.1)), p.2) = (ltr ((namesP ps).idxOf p.1), p.2)
    rw [idx_map (N := namesP ps) (fun a ha b hb e => tn_inj hf hn ha hb e) (hw.2 p hp).1 (fun a ha => ha)]
  unfold canP
  rw [namesP_tr hf ok, e1, e2, e3]
theorem ps_tr_ok {f : Nat → Str} {ps : List (Str × List Key)} {N : List Str} (ok : PsOk ps) (hs : ∀ i, (f i).length ≤ 1000000) : PsOk (ps.map (tr f N)) := by
  refine ⟨by rw [List.length_map]; exact ok.1, fun r hr => ?_⟩
  obtain ⟨r0, h0, rfl⟩ := List.mem_map.mp hr
  obtain ⟨a, b, c, d⟩ := ok.2 r0 h0
  refine ⟨a, by show 1 ≤ (r0.2.map _).length; rw [List.length_map]; exact b, by show (r0.2.map _).length ≤ 4; rw [List.length_map]; exact c, fun k hk => ?_⟩
  obtain ⟨k0, hk0, rfl⟩ := List.mem_map.mp hk
  cases k0 with
  | inl i => exact d _ hk0
  | inr s => exact hs _
theorem g_tr_ok {f : Nat → Str} {ps : List (Str × List Key)} {g : List Key} (hf : Inj24 f) (ok : PsOk ps) (hs : ∀ i, (f i).length ≤ 1000000) (hg : g.length ≤ 3 ∧ (∀ k ∈ g, SymOk k) ∧ ∀ s, Sum.inr s ∈ g → s ∈ namesP ps) : (g.map (tk f (namesP ps))).length ≤ 3 ∧ (∀ k ∈ g.map (tk f (namesP ps)), SymOk k) ∧ ∀ s, Sum.inr s ∈ g.map (tk f (namesP ps)) → s ∈ namesP (ps.map (tr f (namesP ps))) := by
  refine ⟨by rw [List.length_map]; exact hg.1, fun k hk => ?_, fun s h => ?_⟩
  · obtain ⟨k0, hk0, rfl⟩ := List.mem_map.mp hk
    cases k0 with
    | inl i => exact hg.2.1 _ hk0
    | inr s => exact hs _
  · rw [namesP_tr hf ok]
    obtain ⟨k0, hk0, e⟩ := List.mem_map.mp h
    cases k0 with
    | inl i => cases e
    | inr t =>
      cases e
      exact List.mem_map.mpr ⟨t, hg.2.2 t hk0, rfl⟩
theorem w_tr_ok {f : Nat → Str} {ps : List (Str × List Key)} {pw : List (Str × Int)} (hf : Inj24 f) (ok : PsOk ps) (hw : PwOk (namesP ps) pw) : PwOk (namesP (ps.map (tr f (namesP ps)))) (pw.map (tp f (namesP ps))) := by
  refine ⟨?_, fun p hp => ?_⟩
  · rw [List.map_map]
    show (pw.map fun p => tn f (namesP ps) p.1).Nodup
    have : (pw.map fun p => tn f (namesP ps) p.1) = (pw.map (·.1)).map (tn f (namesP ps)) := by rw [List.map_map]; rfl
    rw [this]
    refine List.pairwise_map.mpr (hw.1.imp_of_mem fun {a b} ha hb hne e => hne ?_)
    obtain ⟨pa, ha', rfl⟩ := List.mem_map.mp ha
    obtain ⟨pb, hb', rfl⟩ := List.mem_map.mp hb
    exact tn_inj hf (namesP_len ok) (hw.2 _ ha').1 (hw.2 _ hb').1 e
  · rw [namesP_tr hf ok]
    obtain ⟨p0, h0, rfl⟩ := List.mem_map.mp hp
    exact ⟨List.mem_map.mpr ⟨p0.1, (hw.2 p0 h0).1, rfl⟩, (hw.2 p0 h0).2⟩
end Fm

namespace Fm
open PySem PySem.Spec PyProof.Rows L2
def polF (us : List Str) (i : Nat) : Str := us[i]!
theorem polF_at {us : List Str} {i : Nat} (h : i < us.length) : us[i]? = some (polF us i) := by
  unfold polF
  rw [List.getElem?_eq_getElem h, getElem!_pos us i h]
theorem polF_inj {us : List Str} (h : Pool us) : Inj24 (polF us) := fun i j hi hj e => by
  obtain ⟨l, nd, _⟩ := h
  have a := List.getElem?_eq_some_iff.mp (polF_at (us := us) (i := i) (by omega))
  have b := List.getElem?_eq_some_iff.mp (polF_at (us := us) (i := j) (by omega))
  obtain ⟨a1, a2⟩ := a
  obtain ⟨b1, b2⟩ := b
  exact nodup_at nd a1 b1 (by rw [a2, b2]; exact e)
theorem polF_len {us : List Str} (h : Pool us) (i : Nat) : (polF us i).length ≤ 1000000 := by
  by_cases hi : i < us.length
  · have := List.mem_of_getElem? (polF_at hi)
    exact Nat.le_trans (txs_short _ (h.2.2 _ this)) (by decide)
  · unfold polF
    rw [getElem!_neg us i hi]
    decide
theorem Kp.unlockM {ms : List Addr} {H H2 : Hp} {p : Addr} {kvs : List (Key × V)} {od : Obj} (hp : H p = some (.dK kvs)) (k2 : Kp ms (upd H p (.frz od (.dK kvs))) H2) : Kp ms H (upd H2 p (.dK kvs)) :=
  ⟨fun a o e n => by
    by_cases z : a = p
    · rw [z, upd_same]; rw [z, hp] at e; exact e
    · rw [upd_ne z]; exact k2.at_ a o (by rw [upd_ne z]; exact e) n, fun a xs e => by
    by_cases z : a = p
    · rw [z, hp] at e; cases e
    · rw [upd_ne z]; exact k2.tp a xs (by rw [upd_ne z]; exact e)⟩
def spTurned : Sp := fun vs H Q _ => ∃ (R G W L : Addr) (ps : List (Str × List Key)) (g : List Key) (pw : List (Str × Int)) (us : List Str), vs = [.ref R, .ref G, .ref W, .ref L] ∧ RawAt [] H R G W ps g pw ∧ H L = some (.lst (us.map V.str)) ∧ Pool us ∧
  ∀ q R' G' W' H', Kp [] H H' → H' q = some (.tup [.ref R', .ref G', .ref W']) → RawAt [] H' R' G' W' (ps.map (tr (polF us) (namesP ps))) (g.map (tk (polF us) (namesP ps))) (pw.map (tp (polF us) (namesP ps))) → Q (.ref q) H'
section
variable {P : Program} {w : World} {K : PySem.W.Frag} {mg : Str → Option Value} {base : Heap}
theorem ok_turned (B : Bi mg) (D : Dfn K mg "_law_turned" s__law_turned ["_law_rows", "_law_group", "_law_powers", "_law_pool_here"]) : Has P w K mg base CX0 "_law_turned" ["_law_rows", "_law_group", "_law_powers", "_law_pool_here"] 2 spTurned := by
  refine D.has sc__law_turned (fun vs H Q E h => ?_) (fun f cdv A outer s H vs Q E hr h => ?_)
  · obtain ⟨R, G, W, L, ps, g, pw, us, rfl, _⟩ := h; rfl
  · obtain ⟨R, G, W, Lp, ps, g, pw, us, rfl, ⟨⟨xs, hR, RX⟩, _, hG, _, hW, _, okp, okg, okw⟩, hLp, hus, k⟩ := h
    have hu := hu_of hr
    refine ⟨_, (pss_cons (ps_set (i := 4) sc__law_turned.nd rfl (by first | exact Or.inl rfl | exact Or.inr rfl) pe_dnewK)
  (pss_cons (ps_for PassesOwn.never rfl (pi_list (pv 0)) (pg_tup rfl (pgs_cons (pg_name (i := 5) sc__law_turned.nd rfl (by first | exact Or.inl rfl | exact Or.inr rfl)) (pgs_cons (pg_name (i := 6) sc__law_turned.nd rfl (by first | exact Or.inl rfl | exact Or.inr rfl)) pgs_nil)))
  (pss_one (ps_for PassesOwn.never rfl (pi_list (pv 6)) (pg_name (i := 7) sc__law_turned.nd rfl (by first | exact Or.inl rfl | exact Or.inr rfl))
  (pss_one (ps_if (PW.pt (pw_and (pt_val (pe_callB call_isi (by rfl) B.isinstance (by decide +kernel) (pa_cons (pv 7) (pa_cons (pe_bltn (v := .ty "str") (by rfl) B.str (by decide +kernel) rfl) pa_nil)))) (pw_and1 (pt_cmp (pc_dnotin hu (pv 7) (pv 4)) rfl))))
  (pss_one (ps_dput hu (pv 4) (pv 7) (pe_ix ix_list (pv 3) (pe_callB call_lenD (by rfl) B.len PySem.boot_len (pa_cons (pv 4) pa_nil)) (fun _ _ => rfl)) rfl))
  pss_nil)))))
  (pss_cons (ps_set (i := 8) sc__law_turned.nd rfl (by first | exact Or.inl rfl | exact Or.inr rfl) (pe_lst pa_nil))
  (pss_cons (ps_for PassesOwn.never rfl (pi_list (pv 0)) (pg_tup rfl (pgs_cons (pg_name (i := 5) sc__law_turned.nd rfl (by first | exact Or.inl rfl | exact Or.inr rfl)) (pgs_cons (pg_name (i := 6) sc__law_turned.nd rfl (by first | exact Or.inl rfl | exact Or.inr rfl)) pgs_nil)))
  (pss_one (ps_expr (pe_bm PySem.F.plainAttrs_list PySem.F.slot_list_append PySem.F.type_list_append mt_append (pv 8) (pa_cons (pe_tup (pa_cons (pv 5) (pa_cons (pe_lc (own := [("_law_symbol", 7)]) (g := gName 7) (by rfl) sc__law_turned.nd (pi_list (pv 6)) (blkOk_by (own := [("_law_symbol", 7)]) (N := N__law_turned) (sc := defScope s__law_turned) (by decide +kernel)) (fun _ _ _ _ _ => (pg_name (i := 7) sc__law_turned.nd rfl (by first | exact Or.inl rfl | exact Or.inr rfl))) (fun _ _ _ _ _ => pts_nil) (fun _ _ _ _ _ => (pe_ifExp (pt_val (pe_callB (r := rIsi K) call_isi (by rfl) B.isinstance (by decide +kernel) (pa_cons (pv 7) (pa_cons (pe_bltn (v := .ty "str") (by rfl) B.str (by decide +kernel) rfl) pa_nil)))) (pe_dget hu (pv 4) (pv 7) (fun _ _ => rfl)) (pv 7)))) pa_nil))) pa_nil)))))
  (pss_cons (ps_set (i := 9) sc__law_turned.nd rfl (by first | exact Or.inl rfl | exact Or.inr rfl) pe_dnewK)
  (pss_cons (ps_lock (ps_for PassesOwn.never rfl (pi_keys (pv 2)) (pg_name (i := 10) sc__law_turned.nd rfl (by first | exact Or.inl rfl | exact Or.inr rfl))
  (pss_one (ps_dput hu (pv 9) (pe_dget hu (pv 4) (pv 10) (fun _ _ => rfl)) (pe_dget hu (pv 2) (pv 10) (fun _ _ => rfl)) rfl))))
  (pss_one (ps_ret (pe_tup (pa_cons (pv 8) (pa_cons (pe_lc (own := [("_law_symbol", 7)]) (g := gName 7) (by rfl) sc__law_turned.nd (pi_list (pv 1)) (blkOk_by (own := [("_law_symbol", 7)]) (N := N__law_turned) (sc := defScope s__law_turned) (by decide +kernel)) (fun _ _ _ _ _ => (pg_name (i := 7) sc__law_turned.nd rfl (by first | exact Or.inl rfl | exact Or.inr rfl))) (fun _ _ _ _ _ => pts_nil) (fun _ _ _ _ _ => (pe_ifExp (pt_val (pe_callB (r := rIsi K) call_isi (by rfl) B.isinstance (by decide +kernel) (pa_cons (pv 7) (pa_cons (pe_bltn (v := .ty "str") (by rfl) B.str (by decide +kernel) rfl) pa_nil)))) (pe_dget hu (pv 4) (pv 7) (fun _ _ => rfl)) (pv 7)))) (pa_cons (pv 9) pa_nil)))))))))))), ?_⟩
    have ok1 := okp.1
    have n24 := namesP_len okp
    have w24 := okw.len
    have el := RX.len
    have hsz : sizeLine = 16777216 := rfl
    have l29 := hus.1
    intro D hD
    have k0 : Kp [] H (upd H D (.dK [])) := Kp.new hD
    refine ⟨_, rfl, R, rfl, ⟨_, SqL.of (k0.at_ _ _ hR (fun z => nomatch z))⟩, ?_⟩
    refine for_it (walk_list (xs := xs)) (fun i σ H' => (∃ o5 o6 o7, σ = [some (.ref R), some (.ref G), some (.ref W), some (.ref Lp), some (.ref D), o5, o6, o7, none, none, none]) ∧ Kp [] H H' ∧ H' D = some (.dK (kvF (polF us) ((ps.take i).foldl addR [])))) ⟨⟨_, _, _, rfl⟩, k0, upd_same⟩ (fun i σ H' _ h => SqL.of (h.2.1.at_ _ _ hR (fun z => nomatch z))) ?_ ?_
    · rintro i u σ H2 H3 hi ⟨⟨o5, o6, o7, rfl⟩, k2, h2⟩ ⟨rfl, hu1⟩
      obtain ⟨a, b, r, rfl, er, ha, hb, _⟩ := (RX.kp k2).get hu1
      have okr := okp.2 r (List.mem_of_getElem? er)
      have i6 : i < 6 := by omega
      have ln : ((ps.take i).foldl addR []).length ≤ 4 * i := by
        have := foldR_len (ps.take i) [] fun x hx => (okp.2 x (List.mem_of_mem_take hx)).2.2.1
        rw [List.length_take] at this
        have := Nat.min_le_left i ps.length
        simp only [List.length_nil] at *
        omega
      rw [take_snoc er, List.foldl_append]
      generalize hns : (ps.take i).foldl addR [] = ns at h2 ln
      refine ⟨a, _, rfl, SqT.of ha, rfl, _, _, rfl, _, _, rfl, rfl, ?_⟩
      refine ⟨_, rfl, b, rfl, ⟨_, SqL.of hb⟩, ?_⟩
      refine for_it (walk_list (xs := r.2.map kV)) (fun j σ H' => (∃ o7, σ = [some (.ref R), some (.ref G), some (.ref W), some (.ref Lp), some (.ref D), some (.str r.1), some (.ref b), o7, none, none, none]) ∧ Kp [] H H' ∧ H' D = some (.dK (kvF (polF us) ((r.2.take j).foldl addN ns))) ∧ H' b = some (.lst (r.2.map kV))) ⟨⟨_, rfl⟩, k2, h2, hb⟩ (fun j σ H' _ h => SqL.of h.2.2.2) ?_ ?_
      · rintro j u σ H4 H5 hj ⟨⟨o7, rfl⟩, k4, h4, hb4⟩ ⟨rfl, hu2⟩
        rw [List.getElem?_map] at hu2
        cases ey : r.2[j]? with
        | none => rw [ey] at hu2; cases hu2
        | some y =>
          rw [ey] at hu2
          cases hu2
          rw [take_snoc ey, List.foldl_append]
          have l5 : ((r.2.take j).foldl addN ns).length ≤ 4 * i + j := by
            have := foldN_len (r.2.take j) ns
            rw [List.length_take] at this
            have := Nat.min_le_left j r.2.length
            omega
          have j4 : j < 4 := by
            have := (List.getElem?_eq_some_iff.mp ey).1
            omega
          generalize hms : (r.2.take j).foldl addN ns = ms at h4 l5
          refine ⟨_, rfl, _, _, _, _, _, rfl, .ty _, kV_ty, kit_ty (kb_key y), _, rfl, ?_⟩
          cases y with
          | inl iy => exact iteF (iteF ⟨⟨_, rfl⟩, k4, h4, hb4⟩)
          | inr sy =>
            refine iteT ⟨_, rfl, _, rfl, D, _, rfl, .inl ⟨_, .inr sy, .inl h4, rfl, rfl⟩, _, rfl, ?_⟩
            rw [valV_kvF]
            by_cases hm : sy ∈ ms
            · rw [if_pos hm]
              refine iteF ⟨⟨_, rfl⟩, k4, ?_, hb4⟩
              show H5 D = some (.dK (kvF (polF us) (addN ms (.inr sy))))
              rw [addN_inr, if_pos hm]; exact h4
            · rw [if_neg hm]
              refine iteT ?_
              refine ⟨_, rfl, _, rfl, D, _, rfl, h4, Lp, us.map V.str, _, .str (polF us ms.length), rfl, rfl, SqL.of (k4.at_ _ _ hLp (fun z => nomatch z)), atI_nat (by rw [kvF_len, List.getElem?_map, polF_at (by omega)]; rfl), _, rfl, _, rfl, D, _, rfl, .inl ⟨_, .inr sy, h4, rfl, by rw [kvF_len]; exact small1000 (by omega), rfl⟩, ?_⟩
              rw [putK_new _ (by rw [valV_kvF, if_neg hm])]
              refine ⟨⟨_, rfl⟩, k4.late hD, ?_, by rw [upd_ne (fun z => by rw [z, h4] at hb4; cases hb4)]; exact hb4⟩
              rw [upd_same]
              show some (HO.dK _) = some (.dK (kvF (polF us) (addN ms (.inr sy))))
              rw [addN_inr, if_neg hm, kvF_snoc]
      · rintro σ H4 ⟨⟨o7, rfl⟩, k4, h4, hb4⟩
        rw [List.length_map, List.take_length] at h4
        exact ⟨⟨_, _, _, rfl⟩, k4, h4⟩
    · rintro σ H2 ⟨⟨o5, o6, o7, rfl⟩, k2, h2⟩
      rw [el, List.take_length] at h2
      have h2 : H2 D = some (.dK (kvF (polF us) (namesP ps))) := h2
      have gv : ∀ {y : Key}, (∀ s, y = .inr s → s ∈ namesP ps) → ∀ sy, y = .inr sy → valV (kvF (polF us) (namesP ps)) (.inr sy) = some (kV (tk (polF us) (namesP ps) y)) := fun {y} h sy e => by
        subst e
        rw [valV_kvF, if_pos (h sy rfl)]; rfl
      refine ⟨by show 0 ≤ sizeLine; decide, fun M hM => ?_⟩
      have hMH : H M = none := k2.same.free hM
      have k3 := k2.snoc (o := .lst []) hM
      refine ⟨_, rfl, R, rfl, ⟨_, SqL.of (k3.at_ _ _ hR (fun z => nomatch z))⟩, ?_⟩
      refine for_it (walk_list (xs := xs)) (fun i σ H' => (∃ o5 o6 o7, σ = [some (.ref R), some (.ref G), some (.ref W), some (.ref Lp), some (.ref D), o5, o6, o7, some (.ref M), none, none]) ∧ Kp [] H H' ∧ H' D = some (.dK (kvF (polF us) (namesP ps))) ∧ ∃ zs, H' M = some (.lst zs) ∧ zs.length = i ∧ RawAll [M] H' zs ((ps.take i).map (tr (polF us) (namesP ps)))) ⟨⟨_, _, _, rfl⟩, k3, (Kp.new (ms := []) hM).at_ _ _ h2 (fun z => nomatch z), [], upd_same, rfl, .nil⟩ (fun i σ H' _ h => SqL.of (h.2.1.at_ _ _ hR (fun z => nomatch z))) ?_ ?_
      · rintro i u σ H3 H4 hi ⟨⟨o5, o6, o7, rfl⟩, k4, h4, zs, hz, lz, gz⟩ ⟨rfl, hu1⟩
        obtain ⟨a, b, r, rfl, er, ha, hb, _⟩ := (RX.kp k4).get hu1
        have okr := okp.2 r (List.mem_of_getElem? er)
        refine ⟨a, _, rfl, SqT.of ha, rfl, _, _, rfl, _, _, rfl, rfl, ?_⟩
        refine ⟨_, rfl, .inl ⟨rfl, _, SqL.of hz⟩, _, rfl, _, rfl, b, rfl, ⟨_, SqL.of hb⟩, fun S hS => ?_⟩
        have SM : S ≠ M := fun z => by rw [z, hz] at hS; cases hS
        refine lc_it (walk_list (xs := r.2.map kV)) (fun j H' => H' S = some (.lst (((r.2.take j).map (tk (polF us) (namesP ps))).map kV)) ∧ Kp [] H4 H') ⟨upd_same, Kp.new hS⟩ (fun j H' _ h => SqL.of (h.2.at_ _ _ hb (fun z => nomatch z))) (fun j u H5 H6 hj h5 hy => ?_) (fun H5 h5 => ?_)
        · obtain ⟨h5, k5⟩ := h5
          obtain ⟨rfl, hu2⟩ := hy
          rw [List.getElem?_map] at hu2
          cases ey : r.2[j]? with
          | none => rw [ey] at hu2; cases hu2
          | some y =>
            rw [ey] at hu2
            cases hu2
            have lg : (((r.2.take j).map (tk (polF us) (namesP ps))).map kV).length < sizeLine := by
              rw [List.length_map, List.length_map]
              have : (List.take j r.2).length = min j r.2.length := List.length_take
              have := okr.2.2.1
              exact small1000 (by omega)
            refine ⟨rfl, _, rfl, _, _, _, _, _, rfl, .ty _, kV_ty, kit_ty (kb_key y), _, rfl, ?_⟩
            have hg := gv (y := y) (fun s e => foldR_in ps [] s r (List.mem_of_getElem? er) (e ▸ List.mem_of_getElem? ey))
            cases y with
            | inl iy =>
              refine iteF ⟨_, rfl, _, h5, lg, ?_, k5.late hS⟩
              rw [upd_same, take_snoc ey, List.map_append, List.map_append]; rfl
            | inr sy =>
              refine iteT ⟨_, rfl, _, rfl, D, _, rfl, .inl ⟨_, .inr sy, .inl (k5.at_ _ _ h4 (fun z => nomatch z)), rfl, (hg sy rfl).symm⟩, _, h5, lg, ?_, k5.late hS⟩
              rw [upd_same, take_snoc ey, List.map_append, List.map_append]; rfl
        · obtain ⟨h5, k5⟩ := h5
          rw [List.length_map, List.take_length] at h5
          refine ⟨by show 2 ≤ sizeLine; decide, fun t ht => ?_⟩
          have k6 := k5.snoc (o := .tup [.str r.1, .ref S]) ht
          have hz6 := k6.at_ _ _ hz (fun z => nomatch z)
          have h56 := (Kp.new (ms := []) (o := .tup [.str r.1, .ref S]) ht).at_ _ _ h5 (fun z => nomatch z)
          refine ⟨M, _, _, rfl, rfl, hz6, by rw [lz]; exact small1000 (by omega), ?_⟩
          have kM : Kp [M] (upd H5 t (.tup [.str r.1, .ref S])) (upd (upd H5 t (.tup [.str r.1, .ref S])) M (.lst (zs ++ [.ref t]))) := Kp.updL hz6 (by simp)
          have DM : D ∉ [M] := fun z => by
            have z : D = M := by simpa using z
            rw [z, hz] at h4; cases h4
          refine ⟨⟨_, _, _, rfl⟩, (k4.trans k6).late hMH, kM.at_ _ _ (k6.at_ _ _ h4 (fun z => nomatch z)) DM, zs ++ [.ref t], upd_same, by simp [lz], ?_⟩
          rw [take_snoc er, List.map_append]
          exact ((gz.kp k6.zero).kp kM).snoc (r := tr (polF us) (namesP ps) r) (kM.tp _ _ (upd_same (H := H5) (a := t))) (kM.at_ _ _ h56 (by simpa using SM)) (by simpa using SM)
      · rintro σ H3 ⟨⟨o5, o6, o7, rfl⟩, k4, h4, zs, hz, lz, gz⟩
        rw [el, List.take_length] at gz
        intro T hT
        have hTH : H T = none := k4.same.free hT
        have k5 := k4.snoc (o := .dK []) hT
        have TD : T ≠ D := fun z => by rw [z, h4] at hT; cases hT
        have TM : T ≠ M := fun z => by rw [z, hz] at hT; cases hT
        have hW3 := k4.at_ _ _ hW (fun z => nomatch z)
        have WT : W ≠ T := fun z => by rw [z, hT] at hW3; cases hW3
        generalize h5 : upd H3 T (.dK []) = H5 at k5
        have k35 : Kp [] H3 H5 := h5 ▸ Kp.new hT
        have hT5 : H5 T = some (.dK (pwKv [])) := by rw [← h5]; exact upd_same
        have hW5 := k5.at_ _ _ hW (fun z => nomatch z)
        have hD5 := k35.at_ _ _ h4 (fun z => nomatch z)
        refine ⟨W, _, hW5, trivial, fun od => ?_⟩
        have sl : Sm H5 (upd H5 W (.frz od (.dK (pwKv pw)))) := Sm.lock hW5 (fun _ _ z => by cases z) (fun _ z => by cases z)
        have rD := sl.rd (.inl hD5)
        have hTl : upd H5 W (.frz od (.dK (pwKv pw))) T = some (.dK (pwKv [])) := by rw [upd_ne (Ne.symm WT)]; exact hT5
        refine ⟨_, rfl, W, od, rfl, .inl ⟨pwKv pw, upd_same, ?_⟩⟩
        refine for_it (walk_keys (kvs := pwKv pw)) (fun j σ H' => (∃ o10, σ = [some (.ref R), some (.ref G), some (.ref W), some (.ref Lp), some (.ref D), o5, o6, o7, some (.ref M), some (.ref T), o10]) ∧ H' T = some (.dK (pwKv ((pw.take j).map (tp (polF us) (namesP ps))))) ∧ Kp [T] (upd H5 W (.frz od (.dK (pwKv pw)))) H') ⟨⟨_, rfl⟩, hTl, Kp.refl _⟩ (fun j σ H' _ h => h.2.2.at_ _ _ upd_same (by simpa using WT)) ?_ ?_
        · rintro j xk σ H6 H7 hj ⟨⟨o10, rfl⟩, h6, k6⟩ ⟨rfl, kk, vv, hk, rfl⟩
          obtain ⟨e, he, rfl, rfl, hv⟩ := pwKv_at okw.1 hk
          have pin := (okw.2 e (List.mem_of_getElem? he)).1
          have rD7 := k6.rd (by simpa using Ne.symm TD) rD
          have rW7 : Rd H7 W (.dK (pwKv pw)) := k6.rd (by simpa using WT) (.inr ⟨od, upd_same⟩)
          have hj24 : j < 24 := by
            rw [show (pwKv pw).length = pw.length from List.length_map ..] at hj
            omega
          refine ⟨_, rfl, _, rfl, W, _, rfl, .inl ⟨_, .inr e.1, rW7, rfl, hv.symm⟩, _, rfl, _, rfl, _, rfl, D, _, rfl, .inl ⟨_, .inr e.1, rD7, rfl, by rw [valV_kvF, if_pos pin]; rfl⟩, T, _, rfl, .inl ⟨_, .inr (tn (polF us) (namesP ps) e.1), h6, rfl, ?_, rfl⟩, ?_⟩
          · rw [show ∀ l, (pwKv l).length = l.length from fun l => List.length_map .., List.length_map, List.length_take]
            have := Nat.min_le_left j pw.length
            exact small1000 (by omega)
          · have hnew : tn (polF us) (namesP ps) e.1 ∉ ((pw.take j).map (tp (polF us) (namesP ps))).map (·.1) := by
              have nd := (w_tr_ok (polF_inj hus) okp okw).1
              have := notin_take nd (i := j) (x := tn (polF us) (namesP ps) e.1) (by rw [List.getElem?_map, List.getElem?_map, he]; rfl)
              rwa [← List.map_take, ← List.map_take] at this
            rw [putP_kv]
            rw [show putP ((pw.take j).map (tp (polF us) (namesP ps))) (tn (polF us) (namesP ps) e.1) e.2 = (pw.take (j + 1)).map (tp (polF us) (namesP ps)) by
              unfold putP
              rw [if_neg hnew, take_snoc he, List.map_append]; rfl]
            exact ⟨⟨_, rfl⟩, upd_same, k6.trans (Kp.set h6 (fun _ z => by cases z) (by simp))⟩
        · rintro σ H6 ⟨⟨o10, rfl⟩, h6, k6⟩
          rw [show (pwKv pw).length = pw.length from List.length_map .., List.take_length] at h6
          refine ⟨k6.at_ _ _ upd_same (by simpa using WT), ?_⟩
          have k58 : Kp [T] H5 (upd H6 W (.dK (pwKv pw))) := Kp.unlockM hW5 k6
          have hT8 : upd H6 W (.dK (pwKv pw)) T = some (.dK (pwKv (pw.map (tp (polF us) (namesP ps))))) := by rw [upd_ne (Ne.symm WT)]; exact h6
          generalize upd H6 W (.dK (pwKv pw)) = H8 at k58 hT8
          have k08 : Kp [] H H8 := k5.via k58 (by simp [hTH])
          have hD8 := k58.at_ _ _ hD5 (by simpa using Ne.symm TD)
          have hM8 := k58.at_ _ _ (k35.at_ _ _ hz (fun z => nomatch z)) (by simpa using Ne.symm TM)
          have gz8 := ((gz.new hT).kp k35.zero).kp (k58.mono (ms' := [T, M]) (by simp))
          have hG8 := k08.at_ _ _ hG (fun z => nomatch z)
          refine ⟨_, rfl, _, rfl, G, rfl, ⟨_, SqL.of hG8⟩, fun S hS => ?_⟩
          refine lc_it (walk_list (xs := g.map kV)) (fun j H' => H' S = some (.lst (((g.take j).map (tk (polF us) (namesP ps))).map kV)) ∧ Kp [] H8 H') ⟨upd_same, Kp.new hS⟩ (fun j H' _ h => SqL.of (h.2.at_ _ _ hG8 (fun z => nomatch z))) (fun j u H9 H10 hj h9 hy => ?_) (fun H9 h9 => ?_)
          · obtain ⟨h9, k9⟩ := h9
            obtain ⟨rfl, hu2⟩ := hy
            rw [List.getElem?_map] at hu2
            cases ey : g[j]? with
            | none => rw [ey] at hu2; cases hu2
            | some y =>
              rw [ey] at hu2
              cases hu2
              have lg : (((g.take j).map (tk (polF us) (namesP ps))).map kV).length < sizeLine := by
                rw [List.length_map, List.length_map]
                have : (List.take j g).length = min j g.length := List.length_take
                have := okg.1
                exact small1000 (by omega)
              refine ⟨rfl, _, rfl, _, _, _, _, _, rfl, .ty _, kV_ty, kit_ty (kb_key y), _, rfl, ?_⟩
              have hg := gv (y := y) (fun s e => okg.2.2 s (e ▸ List.mem_of_getElem? ey))
              cases y with
              | inl iy =>
                refine iteF ⟨_, rfl, _, h9, lg, ?_, k9.late hS⟩
                rw [upd_same, take_snoc ey, List.map_append, List.map_append]; rfl
              | inr sy =>
                refine iteT ⟨_, rfl, _, rfl, D, _, rfl, .inl ⟨_, .inr sy, .inl (k9.at_ _ _ hD8 (fun z => nomatch z)), rfl, (hg sy rfl).symm⟩, _, h9, lg, ?_, k9.late hS⟩
                rw [upd_same, take_snoc ey, List.map_append, List.map_append]; rfl
          · obtain ⟨h9, k9⟩ := h9
            rw [List.length_map, List.take_length] at h9
            refine ⟨_, rfl, by show 3 ≤ sizeLine; decide, fun q hq => ?_⟩
            have kq : Kp [] H9 (upd H9 q (.tup [.ref M, .ref S, .ref T])) := Kp.new hq
            have k8q := k9.trans kq
            have fi := polF_inj hus
            have fl := polF_len hus
            exact k q M S T _ (k08.trans k8q) upd_same ⟨⟨zs, k8q.at_ _ _ hM8 (fun z => nomatch z), (gz8.kp k8q.zero).mono (ms' := []) (fun x h => nomatch h)⟩, (fun z => nomatch z), kq.at_ _ _ h9 (fun z => nomatch z), (fun z => nomatch z), k8q.at_ _ _ hT8 (fun z => nomatch z), (fun z => nomatch z), ps_tr_ok okp fl, g_tr_ok fi okp fl okg, w_tr_ok fi okp okw⟩
end
end Fm

namespace Fm
open PySem PySem.Spec PyProof.Rows L2
/-! ### a pattern with one change -/
theorem foldN_back : ∀ (ks : List Key) (ns : List Str) (s : Str), s ∈ ks.foldl addN ns → s ∈ ns ∨ Sum.inr s ∈ ks
  | [], _, _, h => .inl h
  | k :: ks, ns, s, h => by
    rcases foldN_back ks _ s h with h | h
    · cases k with
      | inl _ => exact .inl h
      | inr t =>
        rw [addN_inr] at h
        split at h
        · exact .inl h
        · rcases List.mem_append.mp h with h | h
          · exact .inl h
          · rw [List.mem_singleton.mp h]; exact .inr List.mem_cons_self
    · exact .inr (List.mem_cons_of_mem _ h)
theorem foldR_back : ∀ (ps : List (Str × List Key)) (ns : List Str) (s : Str), s ∈ ps.foldl addR ns → s ∈ ns ∨ ∃ r ∈ ps, Sum.inr s ∈ r.2
  | [], _, _, h => .inl h
  | r :: ps, ns, s, h => by
    rcases foldR_back ps _ s h with h | ⟨x, hx, h⟩
    · rcases foldN_back r.2 ns s h with h | h
      · exact .inl h
      · exact .inr ⟨r, List.mem_cons_self, h⟩
    · exact .inr ⟨x, List.mem_cons_of_mem _ hx, h⟩
theorem names_sub {ps ps' : List (Str × List Key)} (h : ∀ r ∈ ps, r ∈ ps') : ∀ s ∈ namesP ps, s ∈ namesP ps' := fun s hs => by
  rcases foldR_back ps [] s hs with q | ⟨r, hr, q⟩
  · cases q
  · exact foldR_in ps' [] s r (h r hr) q
def rListO (K : PySem.W.Frag) : List V → Hp → VK → Prop := fun xs H Q => ∃ p ys, xs = [V.ref p] ∧ (SqL K H p ys ∨ SqT K H p ys) ∧ ∀ l, H l = none → Q (.ref l) (upd H l (.lst ys))
structure ChD (b c M T O U : Addr) (H : Hp) : Prop where
  m : M ≠ b ∧ M ≠ c ∧ H M = none
  t : T ≠ b ∧ T ≠ c ∧ H T = none
  o : O ≠ b ∧ O ≠ c ∧ H O = none
  u : U ≠ b
  mt : M ≠ T
  mo : M ≠ O
  to : T ≠ O
  um : U ≠ M
  ut : U ≠ T
  uo : U ≠ O
structure ChS (b c M T O U : Addr) (H H' : Hp) (ps : List (Str × List Key)) (g : List Key) (pw : List (Str × Int)) (us : List Str) : Prop where
  bag : Bag H' b c
  kp : Kp [b] H H'
  rows : ∃ zs, H' M = some (.lst zs) ∧ RawAll [b, M, T, O] H' zs ps
  told : H' T = some (.lst (g.map kV))
  pws : H' O = some (.dK (pwKv pw))
  used : H' U = some (.lst (us.map V.str))
  okp : PsOk ps
  okg : g.length ≤ 3 ∧ (∀ k ∈ g, SymOk k) ∧ ∀ s, Sum.inr s ∈ g → s ∈ namesP ps
  okw : PwOk (namesP ps) pw
  uin : ∀ u ∈ us, u ∈ namesP ps
  lu : us.length ≤ 24
section
variable {b c M T O U : Addr} {H H' H'' : Hp} {ps ps' : List (Str × List Key)} {g g' : List Key} {pw pw' : List (Str × Int)} {us : List Str}
theorem ChS.draw (h : ChS b c M T O U H H' ps g pw us) (D : ChD b c M T O U H) (B : Bag H'' b c) (k : Kp [b] H' H'') : ChS b c M T O U H H'' ps g pw us := by
  obtain ⟨zs, h1, h2⟩ := h.rows
  exact ⟨B, h.kp.trans k, ⟨zs, k.at_ _ _ h1 (by simpa using D.m.1), h2.kp (k.mono (by simp))⟩, k.at_ _ _ h.told (by simpa using D.t.1), k.at_ _ _ h.pws (by simpa using D.o.1), k.at_ _ _ h.used (by simpa using D.u), h.okp, h.okg, h.okw, h.uin, h.lu⟩
theorem ChS.fresh {q : Addr} {o : HO} (h : ChS b c M T O U H H' ps g pw us) (hq : H' q = none) : ChS b c M T O U H (upd H' q o) ps g pw us := by
  obtain ⟨zs, h1, h2⟩ := h.rows
  have k : Kp [] H' (upd H' q o) := Kp.new hq
  exact ⟨h.bag.keep0 k, h.kp.trans k.zero, ⟨zs, k.at_ _ _ h1 (fun z => nomatch z), h2.kp k.zero⟩, k.at_ _ _ h.told (fun z => nomatch z), k.at_ _ _ h.pws (fun z => nomatch z), k.at_ _ _ h.used (fun z => nomatch z), h.okp, h.okg, h.okw, h.uin, h.lu⟩
/-- the list of rows set -/
theorem ChS.setM {zs' : List V} (h : ChS b c M T O U H H' ps g pw us) (D : ChD b c M T O U H) (hr : RawAll [b, M, T, O] H' zs' ps') (okp : PsOk ps') (sub : ∀ s ∈ namesP ps, s ∈ namesP ps') : ChS b c M T O U H (upd H' M (.lst zs')) ps' g pw us := by
  obtain ⟨zs, h1, h2⟩ := h.rows
  have k : Kp [M] H' (upd H' M (.lst zs')) := Kp.updL h1 (by simp)
  exact ⟨h.bag.keep k (by simpa using Ne.symm D.m.1) (by simpa using Ne.symm D.m.2.1), h.kp.late D.m.2.2, ⟨zs', upd_same, hr.kp (k.mono (by simp))⟩, k.at_ _ _ h.told (by simpa using Ne.symm D.mt), k.at_ _ _ h.pws (by simpa using Ne.symm D.mo), k.at_ _ _ h.used (by simpa using D.um), okp, ⟨h.okg.1, h.okg.2.1, fun s hs => sub s (h.okg.2.2 s hs)⟩, h.okw.mono sub, fun u hu => sub u (h.uin u hu), h.lu⟩
theorem ChS.setT (h : ChS b c M T O U H H' ps g pw us) (D : ChD b c M T O U H) (okg : g'.length ≤ 3 ∧ (∀ k ∈ g', SymOk k) ∧ ∀ s, Sum.inr s ∈ g' → s ∈ namesP ps) : ChS b c M T O U H (upd H' T (.lst (g'.map kV))) ps g' pw us := by
  obtain ⟨zs, h1, h2⟩ := h.rows
  have k : Kp [T] H' (upd H' T (.lst (g'.map kV))) := Kp.updL h.told (by simp)
  exact ⟨h.bag.keep k (by simpa using Ne.symm D.t.1) (by simpa using Ne.symm D.t.2.1), h.kp.late D.t.2.2, ⟨zs, k.at_ _ _ h1 (by simpa using D.mt), h2.kp (k.mono (by simp))⟩, upd_same, k.at_ _ _ h.pws (by simpa using Ne.symm D.to), k.at_ _ _ h.used (by simpa using D.ut), h.okp, okg, h.okw, h.uin, h.lu⟩
theorem ChS.setO (h : ChS b c M T O U H H' ps g pw us) (D : ChD b c M T O U H) (okw : PwOk (namesP ps) pw') : ChS b c M T O U H (upd H' O (.dK (pwKv pw'))) ps g pw' us := by
  obtain ⟨zs, h1, h2⟩ := h.rows
  have k : Kp [O] H' (upd H' O (.dK (pwKv pw'))) := Kp.set h.pws (fun _ z => by cases z) (by simp)
  exact ⟨h.bag.keep k (by simpa using Ne.symm D.o.1) (by simpa using Ne.symm D.o.2.1), h.kp.late D.o.2.2, ⟨zs, k.at_ _ _ h1 (by simpa using D.mo), h2.kp (k.mono (by simp))⟩, k.at_ _ _ h.told (by simpa using D.to), upd_same, k.at_ _ _ h.used (by simpa using D.uo), h.okp, h.okg, okw, h.uin, h.lu⟩
theorem RawAll.erase {ms : List Addr} {H : Hp} : ∀ {xs : List V} {ps : List (Str × List Key)}, RawAll ms H xs ps → ∀ i : Nat, RawAll ms H (xs.eraseIdx i) (ps.eraseIdx i)
  | _, _, .nil, i => .nil
  | _, _, .cons a b c d, 0 => d
  | _, _, .cons a b c d, i + 1 => .cons a b c (d.erase i)
end
theorem ChS.keep0 {b c M T O U : Addr} {H H' H'' : Hp} {ps : List (Str × List Key)} {g : List Key} {pw : List (Str × Int)} {us : List Str} (h : ChS b c M T O U H H' ps g pw us) (k : Kp [] H' H'') : ChS b c M T O U H H'' ps g pw us := by
  obtain ⟨zs, h1, h2⟩ := h.rows
  exact ⟨h.bag.keep0 k, h.kp.trans k.zero, ⟨zs, k.at_ _ _ h1 (fun z => nomatch z), h2.kp k.zero⟩, k.at_ _ _ h.told (fun z => nomatch z), k.at_ _ _ h.pws (fun z => nomatch z), k.at_ _ _ h.used (fun z => nomatch z), h.okp, h.okg, h.okw, h.uin, h.lu⟩
def Mid (b c R G W : Addr) (kd : Int) (M T O U : Addr) (o9 o10 : Option V) (H : Hp) (us : List Str) : L2.St → Hp → Prop := fun σ H' => (∃ o11, σ = [some (.ref b), some (.ref R), some (.ref G), some (.ref W), some (.int kd), some (.ref M), some (.ref T), some (.ref O), some (.ref U), o9, o10, o11, none]) ∧ ∃ ps g pw, ChS b c M T O U H H' ps g pw us
theorem ChS.reU {b c M T O U U' : Addr} {H H' : Hp} {ps : List (Str × List Key)} {g : List Key} {pw : List (Str × Int)} {us us' : List Str} (h : ChS b c M T O U H H' ps g pw us) (hU : H' U' = some (.lst (us'.map V.str))) (uin : ∀ u ∈ us', u ∈ namesP ps) (lu : us'.length ≤ 24) : ChS b c M T O U' H H' ps g pw us' :=
  ⟨h.bag, h.kp, h.rows, h.told, h.pws, hU, h.okp, h.okg, h.okw, uin, lu⟩
def ksS (ks : List Key) : List Str := ks.filterMap fun k => match k with | .inl _ => none | .inr s => some s
theorem ksS_len (ks : List Key) : (ksS ks).length ≤ ks.length := List.length_filterMap_le _ _
theorem ksS_mem {ks : List Key} {s : Str} (h : s ∈ ksS ks) : Sum.inr s ∈ ks := by
  obtain ⟨k, hk, e⟩ := List.mem_filterMap.mp h
  cases k with
  | inl _ => cases e
  | inr t => cases e; exact hk
theorem pwKv_val (s : Str) : ∀ pw : List (Str × Int), ∃ n, (valV (pwKv pw) (.inr s)).getD (.int 0) = .int n ∧ (n = 0 ∨ ∃ p ∈ pw, n = p.2)
  | [] => ⟨0, rfl, .inl rfl⟩
  | p :: pw => by
    by_cases h : p.1 = s
    · refine ⟨p.2, ?_, .inr ⟨p, List.mem_cons_self, rfl⟩⟩
      unfold valV pwKv
      rw [List.map_cons, List.find?_cons_of_pos (by simp [h])]; rfl
    · obtain ⟨n, h1, h2⟩ := pwKv_val s pw
      refine ⟨n, ?_, h2.imp id fun ⟨q, hq, e⟩ => ⟨q, List.mem_cons_of_mem _ hq, e⟩⟩
      unfold valV pwKv at h1 ⊢
      rw [List.map_cons, List.find?_cons_of_neg (by simp [h])]
      exact h1
theorem isNm_t : IsNm ("t" : Str) := by
  refine ⟨by decide +kernel, by decide +kernel, ?_⟩
  decide +kernel
def spChanged : Sp := fun vs H Q _ => ∃ (b c R G W : Addr) (ps : List (Str × List Key)) (g : List Key) (pw : List (Str × Int)), vs = [.ref b, .ref R, .ref G, .ref W] ∧ Bag H b c ∧ RawAt [b] H R G W ps g pw ∧
  ∀ q R' G' W' ps' g' pw' H', Bag H' b c → Kp [b] H H' → H' q = some (.tup [.ref R', .ref G', .ref W']) → RawAt [b] H' R' G' W' ps' g' pw' → Q (.ref q) H'
section
variable {P : Program} {w : World} {K : PySem.W.Frag} {mg : Str → Option Value} {base : Heap}
theorem ok_changed (B : Bi mg) (D : Dfn K mg "_law_changed" s__law_changed ["_law_bag_here", "_law_rows", "_law_group", "_law_powers"]) (G_pick : Has P w K mg base CX0 "_law_pick" ["_law_bag_here", "_law_many"] 1 spPick) (G_value : Has P w K mg base CX0 "_law_value" ["_law_bag_here"] 2 spValue) : Has P w K mg base CX0 "_law_changed" ["_law_bag_here", "_law_rows", "_law_group", "_law_powers"] 3 spChanged := by
  refine D.has sc__law_changed (fun vs H Q E h => ?_) (fun f cdv A outer s H vs Q E hr h => ?_)
  · obtain ⟨b, c, R, G, W, ps, g, pw, rfl, _⟩ := h; rfl
  · obtain ⟨b, c, R, G, W, ps, g, pw, rfl, BG, ⟨⟨xs, hR, RX⟩, Rb, hG, Gb, hW, Wb, okp, okg, okw⟩, k⟩ := h
    have hu := hu_of hr
    refine ⟨_, (pss_cons (ps_set (i := 4) sc__law_changed.nd rfl (by first | exact Or.inl rfl | exact Or.inr rfl) (pe_has G_pick (hr.mono (by omega)) (pa_cons (pv 0) (pa_cons pe_int pa_nil))))
  (pss_cons (ps_setLc (i := 5) (own := [("_law_table", 9), ("_law_symbols", 10)]) (g := gTup K 2 (gCons (gName 9) (gCons (gName 10) gNil))) (by rfl) sc__law_changed.nd rfl rfl (sw_true rfl rfl rfl (by decide +kernel)) (pi_list (pv 1)) (blkOk_by (own := [("_law_table", 9), ("_law_symbols", 10)]) (N := N__law_changed) (sc := defScope s__law_changed) (by decide +kernel)) (fun _ _ _ _ _ => (pg_tup rfl (pgs_cons (pg_name (i := 9) sc__law_changed.nd rfl (by first | exact Or.inl rfl | exact Or.inr rfl)) (pgs_cons (pg_name (i := 10) sc__law_changed.nd rfl (by first | exact Or.inl rfl | exact Or.inr rfl)) pgs_nil)))) (fun _ _ _ _ _ => pts_nil) (fun _ _ _ _ _ => (pe_tup (pa_cons (pv 9) (pa_cons (pe_callTy (r := rListO K) call_list_of (by rfl) B.list (by decide +kernel) (pa_cons (pv 10) pa_nil)) pa_nil)))))
  (pss_cons (ps_set (i := 6) sc__law_changed.nd rfl (by first | exact Or.inl rfl | exact Or.inr rfl) (pe_callTy call_list_of (by rfl) B.list (by decide +kernel) (pa_cons (pv 2) pa_nil)))
  (pss_cons (ps_set (i := 7) sc__law_changed.nd rfl (by first | exact Or.inl rfl | exact Or.inr rfl) (pe_callTy call_dictD (by rfl) B.dict (by decide +kernel) (pa_cons (pv 3) pa_nil)))
  (pss_cons (ps_set (i := 8) sc__law_changed.nd rfl (by first | exact Or.inl rfl | exact Or.inr rfl) (pe_lst pa_nil))
  (pss_cons (ps_for PassesOwn.never rfl (pi_list (pv 1)) (pg_tup rfl (pgs_cons (pg_name (i := 9) sc__law_changed.nd rfl (by first | exact Or.inl rfl | exact Or.inr rfl)) (pgs_cons (pg_name (i := 10) sc__law_changed.nd rfl (by first | exact Or.inl rfl | exact Or.inr rfl)) pgs_nil)))
  (pss_one (ps_set (i := 8) sc__law_changed.nd rfl (by first | exact Or.inl rfl | exact Or.inr rfl) (pe_op op_cat (pv 8) (pe_lc (own := [("_law_symbol", 12)]) (g := gName 12) (by rfl) sc__law_changed.nd (pi_list (pv 10)) (blkOk_by (own := [("_law_symbol", 12)]) (N := N__law_changed) (sc := defScope s__law_changed) (by decide +kernel)) (fun _ _ _ _ _ => (pg_name (i := 12) sc__law_changed.nd rfl (by first | exact Or.inl rfl | exact Or.inr rfl))) (fun _ _ _ _ _ => pts_one (pt_val (pe_callB (r := rIsi K) call_isi (by rfl) B.isinstance (by decide +kernel) (pa_cons (pv 12) (pa_cons (pe_bltn (v := .ty "str") (by rfl) B.str (by decide +kernel) rfl) pa_nil))))) (fun _ _ _ _ _ => (pv 12)))))))
  (C8.pss_cut (ps_if (PW.pt (pw_and (pt_cmpR op_eq (pv 4) pe_int (nomark _)) (pw_and1 (pt_cmpR op_gt (pe_callB call_len (by rfl) B.len PySem.boot_len (pa_cons (pv 5) pa_nil)) pe_int (nomark _)))))
  (pss_one (ps_expr (pe_bm PySem.F.plainAttrs_list PySem.F.slot_list_append PySem.F.type_list_append mt_append (pv 5) (pa_cons (pe_bm PySem.F.plainAttrs_list PySem.F.slot_list_pop PySem.F.type_list_pop mt_popAt (pv 5) (pa_cons (pe_has G_pick (hr.mono (by omega)) (pa_cons (pv 0) (pa_cons (pe_callB call_len (by rfl) B.len PySem.boot_len (pa_cons (pv 5) pa_nil)) pa_nil))) pa_nil)) pa_nil))))
  pss_nil)
  (C8.pss_cut (ps_if (PW.pt (pw_and (pt_cmpR op_eq (pv 4) pe_int (nomark _)) (pw_and (pt_cmpR op_gt (pe_callB call_len (by rfl) B.len PySem.boot_len (pa_cons (pv 8) pa_nil)) pe_int (nomark _)) (pw_and1 (pt_cmpR op_lt (pe_callB call_len (by rfl) B.len PySem.boot_len (pa_cons (pv 6) pa_nil)) pe_int (nomark _))))))
  (pss_one (ps_expr (pe_bm PySem.F.plainAttrs_list PySem.F.slot_list_append PySem.F.type_list_append mt_append (pv 6) (pa_cons (pe_ix ix_list (pv 8) (pe_has G_pick (hr.mono (by omega)) (pa_cons (pv 0) (pa_cons (pe_callB call_len (by rfl) B.len PySem.boot_len (pa_cons (pv 8) pa_nil)) pa_nil))) (fun _ _ => rfl)) pa_nil))))
  pss_nil)
  (C8.pss_cut (ps_if (PW.pt (pw_and (pt_cmpR op_eq (pv 4) pe_int (nomark _)) (pw_and1 (pt_cmpR op_gt (pe_callB call_len (by rfl) B.len PySem.boot_len (pa_cons (pv 8) pa_nil)) pe_int (nomark _)))))
  (pss_cons (ps_set (i := 11) sc__law_changed.nd rfl (by first | exact Or.inl rfl | exact Or.inr rfl) (pe_ix ix_list (pv 8) (pe_has G_pick (hr.mono (by omega)) (pa_cons (pv 0) (pa_cons (pe_callB call_len (by rfl) B.len PySem.boot_len (pa_cons (pv 8) pa_nil)) pa_nil))) (fun _ _ => rfl)))
  (pss_one (ps_dput hu (pv 7) (pv 11) (pe_op op_add (pe_op op_mod (pe_callTy call_int1 (by rfl) B.int (by decide +kernel) (pa_cons (pe_op op_add (pe_dget2 hu (pv 7) (pv 11) pe_int ⟨rfl, rfl, rfl, rfl⟩) pe_int) pa_nil)) pe_int) pe_int) rfl)))
  pss_nil)
  (C8.pss_cut (ps_if (PW.pt (pw_and (pt_cmpR op_eq (pv 4) pe_int (nomark _)) (pw_and1 (pt_cmpR op_lt (pe_callB call_len (by rfl) B.len PySem.boot_len (pa_cons (pv 5) pa_nil)) pe_int (nomark _)))))
  (pss_one (ps_expr (pe_bm PySem.F.plainAttrs_list PySem.F.slot_list_append PySem.F.type_list_append mt_append (pv 5) (pa_cons (pe_tup (pa_cons pe_str (pa_cons (pe_lst (pa_cons (pe_has G_value (hr.mono (by omega)) (pa_cons (pv 0) pa_nil)) pa_nil)) pa_nil))) pa_nil))))
  pss_nil)
  (C8.pss_cut (ps_if (PW.pt (pw_and (pt_cmpR op_eq (pv 4) pe_int (nomark _)) (pw_and1 (pt_cmpR op_gt (pe_callB call_len (by rfl) B.len PySem.boot_len (pa_cons (pv 6) pa_nil)) pe_int (nomark _)))))
  (pss_one (ps_asg (pe_has G_value (hr.mono (by omega)) (pa_cons (pv 0) pa_nil)) (pg_sub (pv 6) (pe_has G_pick (hr.mono (by omega)) (pa_cons (pv 0) (pa_cons (pe_callB call_len (by rfl) B.len PySem.boot_len (pa_cons (pv 6) pa_nil)) pa_nil))) set_list)))
  pss_nil)
  (pss_one (ps_ret (pe_tup (pa_cons (pv 5) (pa_cons (pv 6) (pa_cons (pv 7) pa_nil))))))))))))))))), ?_⟩
    have ok1 := okp.1
    have n24 := namesP_len okp
    have w24 := okw.len
    have el := RX.len
    have hsz : sizeLine = 16777216 := rfl
    have ne_b : ∀ {x : Addr}, H x = none → x ≠ b := fun {x} h z => by
      obtain ⟨o, ho⟩ := BG.someB
      rw [← z, h] at ho; cases ho
    have ne_c : ∀ {x : Addr}, H x = none → x ≠ c := fun {x} h z => by
      obtain ⟨o, ho⟩ := BG.someC
      rw [← z, h] at ho; cases ho
    refine ⟨_, rfl, b, c, 6, rfl, BG, by decide, by decide, fun kd H1 kd0 kd1 B1 k1 => ?_⟩
    have free1 : ∀ {x : Addr}, H1 x = none → H x = none := fun {x} h => k1.freeB B1 h
    have RX1 := RX.kp k1
    have hR1 := k1.at_ _ _ hR Rb
    refine ⟨_, rfl, R, rfl, ⟨_, SqL.of hR1⟩, fun M hM => ?_⟩
    have hMH := free1 hM
    refine lc_it (walk_list (xs := xs)) (fun j H' => ∃ zs, H' M = some (.lst zs) ∧ zs.length = j ∧ RawAll [b, M] H' zs (ps.take j) ∧ Kp [] H1 H') ⟨[], upd_same, rfl, .nil, Kp.new hM⟩ (fun j H' _ h => let ⟨_, _, _, _, k2⟩ := h; SqL.of (k2.at_ _ _ hR1 (fun z => nomatch z))) (fun j u H2 H3 hj h2 hy => ?_) (fun H2 h2 => ?_)
    · obtain ⟨zs, h2, lz, gz, k2⟩ := h2
      obtain ⟨rfl, hu1⟩ := hy
      obtain ⟨a, s1, r, rfl, er, ha, hs1, sb⟩ := (RX1.kp k2.zero).get hu1
      refine ⟨a, _, rfl, SqT.of ha, rfl, _, _, rfl, _, _, rfl, rfl, ?_⟩
      refine ⟨rfl, _, rfl, _, rfl, ?_⟩
      dsimp only [tNil]
      refine ⟨s1, _, rfl, .inl (SqL.of hs1), fun l hl => ⟨by show 2 ≤ sizeLine; decide, fun t ht => ?_⟩⟩
      have k3 := (Kp.new (ms := []) (o := .lst (r.2.map kV)) hl).snoc (o := .tup [.str r.1, .ref l]) ht
      have h3 := k3.at_ _ _ h2 (fun z => nomatch z)
      have lM : l ≠ M := fun z => by rw [z, h2] at hl; cases hl
      refine ⟨zs, h3, by rw [lz]; exact small1000 (by omega), zs ++ [.ref t], upd_same, by simp [lz], ?_, (k2.trans k3).late hM⟩
      rw [take_snoc er]
      have kM := Kp.updL (ms := [M]) (o' := .lst (zs ++ [.ref t])) h3 (by simp)
      have hl3 := (Kp.new (ms := []) (o := .tup [.str r.1, .ref l]) ht).at_ _ _ (upd_same (H := H3) (a := l) (o := .lst (r.2.map kV))) (fun z => nomatch z)
      have lb : l ≠ b := fun z => by
        obtain ⟨o, ho⟩ := (B1.keep0 k2).someB
        rw [← z, hl] at ho; cases ho
      exact ((gz.kp k3.zero).kp (kM.mono (by simp))).snoc (r := r) (kM.tp _ _ upd_same) (kM.at_ _ _ hl3 (by simpa using lM)) (by simp [lM, lb])
    · obtain ⟨zs, h2, lz, gz, k2⟩ := h2
      rw [el, List.take_length] at gz
      have k12 := k1.trans k2.zero
      refine ⟨_, rfl, G, _, rfl, .inl (SqL.of (k12.at_ _ _ hG Gb)), fun T hT => ?_⟩
      refine ⟨_, rfl, W, _, rfl, .inl ((k12.snoc hT).at_ _ _ hW Wb), fun O hO => ?_⟩
      refine ⟨by show 0 ≤ sizeLine; decide, fun U0 hU0 => ?_⟩
      have k25 : Kp [] H2 (upd (upd (upd H2 T (.lst (g.map kV))) O (.dK (pwKv pw))) U0 (.lst [])) := ((Kp.new hT).snoc hO).snoc hU0
      have TO : T ≠ O := fun z => by rw [← z, upd_same] at hO; cases hO
      have MT : M ≠ T := fun z => by rw [z, hT] at h2; cases h2
      have hO2 : H2 O = none := by rw [upd_ne (Ne.symm TO)] at hO; exact hO
      have MO : M ≠ O := fun z => by rw [z, hO2] at h2; cases h2
      have UO : U0 ≠ O := fun z => by rw [z, upd_same] at hU0; cases hU0
      have UT : U0 ≠ T := fun z => by rw [z, upd_ne TO, upd_same] at hU0; cases hU0
      have hU2 : H2 U0 = none := by rw [upd_ne UO, upd_ne UT] at hU0; exact hU0
      have UM : U0 ≠ M := fun z => by rw [z, h2] at hU2; cases hU2
      have free2 : ∀ {x : Addr}, H2 x = none → H x = none := fun {x} h => free1 (k2.same.free h)
      have CD0 : ∀ {U : Addr}, U ≠ b → U ≠ M → U ≠ T → U ≠ O → ChD b c M T O U H := fun {U} a1 a2 a3 a4 => ⟨⟨ne_b hMH, ne_c hMH, hMH⟩, ⟨ne_b (free2 hT), ne_c (free2 hT), free2 hT⟩, ⟨ne_b (free2 hO2), ne_c (free2 hO2), free2 hO2⟩, a1, MT, MO, TO, a2, a3, a4⟩
      have CS0 : ChS b c M T O U0 H (upd (upd (upd H2 T (.lst (g.map kV))) O (.dK (pwKv pw))) U0 (.lst [])) ps g pw [] := by
        refine ⟨(B1.keep0 k2).keep0 k25, k12.trans k25.zero, ⟨zs, k25.at_ _ _ h2 (fun z => nomatch z), ?_⟩, ?_, ?_, upd_same, okp, okg, okw, (fun u h => nomatch h), Nat.zero_le _⟩
        · have a1 := ((gz.new hT).new hO2).kp k25.zero
          exact a1.mono (by simp)
        · rw [upd_ne (Ne.symm UT), upd_ne TO, upd_same]
        · rw [upd_ne (Ne.symm UO), upd_same]
      refine ⟨_, rfl, R, rfl, ⟨_, SqL.of (CS0.kp.at_ _ _ hR Rb)⟩, ?_⟩
      refine for_it (walk_list (xs := xs)) (fun i σ H' => ∃ U us o9 o10, σ = [some (.ref b), some (.ref R), some (.ref G), some (.ref W), some (.int kd), some (.ref M), some (.ref T), some (.ref O), some (.ref U), o9, o10, none, none] ∧ ChD b c M T O U H ∧ ChS b c M T O U H H' ps g pw us ∧ us.length ≤ 4 * i) ⟨U0, [], _, _, rfl, CD0 (ne_b (free2 hU2)) UM UT UO, CS0, Nat.zero_le _⟩ (fun i σ H' _ h => let ⟨_, _, _, _, _, _, hc, _⟩ := h; SqL.of (hc.kp.at_ _ _ hR Rb)) ?_ ?_
      · rintro i u σ H6 H7 hi ⟨U, us, o9, o10, rfl, CD, CS, lu⟩ ⟨rfl, hu1⟩
        obtain ⟨a, s1, r, rfl, er, ha, hs1, sb⟩ := (RX.kp CS.kp).get hu1
        have okr := okp.2 r (List.mem_of_getElem? er)
        have rn : ∀ s, Sum.inr s ∈ r.2 → s ∈ namesP ps := fun s hs => foldR_in ps [] s r (List.mem_of_getElem? er) hs
        refine ⟨a, _, rfl, SqT.of ha, rfl, _, _, rfl, _, _, rfl, rfl, ?_⟩
        refine ⟨_, rfl, _, rfl, s1, rfl, ⟨_, SqL.of hs1⟩, fun S hS => ?_⟩
        refine lc_it (walk_list (xs := r.2.map kV)) (fun j H' => H' S = some (.lst ((ksS (r.2.take j)).map V.str)) ∧ Kp [] H7 H') ⟨upd_same, Kp.new hS⟩ (fun j H' _ h => SqL.of (h.2.at_ _ _ hs1 (fun z => nomatch z))) (fun j u H8 H9 hj h8 hy => ?_) (fun H8 h8 => ?_)
        · obtain ⟨h8, k8⟩ := h8
          obtain ⟨rfl, hu2⟩ := hy
          rw [List.getElem?_map] at hu2
          cases ey : r.2[j]? with
          | none => rw [ey] at hu2; cases hu2
          | some y =>
            rw [ey] at hu2
            cases hu2
            refine ⟨rfl, _, rfl, _, _, _, _, _, rfl, .ty _, kV_ty, kit_ty (kb_key y), _, rfl, ?_⟩
            have ll := ksS_len (r.2.take j)
            have : (List.take j r.2).length = min j r.2.length := List.length_take
            cases y with
            | inl iy =>
              refine iteF ⟨?_, k8⟩
              rw [take_snoc ey]
              unfold ksS at h8 ⊢
              rw [List.filterMap_append]
              simpa using h8
            | inr sy =>
              refine iteT ⟨_, rfl, _, h8, by rw [List.length_map]; exact small1000 (by omega), ?_, k8.late hS⟩
              rw [upd_same, take_snoc ey]
              unfold ksS
              rw [List.filterMap_append, List.map_append]; rfl
        · obtain ⟨h8, k8⟩ := h8
          rw [List.length_map, List.take_length] at h8
          have ll := ksS_len r.2
          refine ⟨U, S, us.map V.str, (ksS r.2).map V.str, rfl, rfl, k8.at_ _ _ CS.used (fun z => nomatch z), h8, by rw [List.length_map, List.length_map]; omega, fun p hp => ?_⟩
          have kp8 : Kp [] H7 (upd H8 p (.lst (us.map V.str ++ (ksS r.2).map V.str))) := k8.snoc hp
          have CS8 := CS.keep0 k8
          have CS9 := (CS.keep0 kp8).reU (U' := p) (us' := us ++ ksS r.2) (by rw [upd_same, List.map_append]) (fun u hu => by
            rcases List.mem_append.mp hu with h | h
            · exact CS.uin u h
            · exact rn u (ksS_mem h)) (by rw [List.length_append]; have := okr.2.2.1; omega)
          have pb : p ≠ b := fun z => by
            obtain ⟨o, ho⟩ := CS8.bag.someB
            rw [← z, hp] at ho; cases ho
          have pM : p ≠ M := fun z => by
            obtain ⟨zs, h, _⟩ := CS8.rows
            rw [← z, hp] at h; cases h
          exact ⟨p, us ++ ksS r.2, _, _, rfl, CD0 pb pM (fun z => by have := CS8.told; rw [← z, hp] at this; cases this) (fun z => by have := CS8.pws; rw [← z, hp] at this; cases this), CS9, by rw [List.length_append]; have := okr.2.2.1; omega⟩
      · rintro σ H6 ⟨U, us, o9, o10, rfl, CD, CS, lu⟩
        have mk : ∀ {H7 : Hp} {o11 : Option V} {ps : List (Str × List Key)} {g : List Key} {pw : List (Str × Int)}, ChS b c M T O U H H7 ps g pw us → Mid b c R G W kd M T O U o9 o10 H us [some (.ref b), some (.ref R), some (.ref G), some (.ref W), some (.int kd), some (.ref M), some (.ref T), some (.ref O), some (.ref U), o9, o10, o11, none] H7 := fun h => ⟨⟨_, rfl⟩, _, _, _, h⟩
        refine ⟨Mid b c R G W kd M T O U o9 o10 H us, ?_, ?_⟩
        · obtain ⟨zs, hz, RZ⟩ := CS.rows
          have lz := RZ.len
          have l6 := CS.okp.1
          refine ⟨_, rfl, rfl, _, rfl, ite2 (fun _ => ?_) (fun _ => mk CS)⟩
          refine ⟨_, rfl, _, _, rfl, .inl ⟨_, SqL.of hz, rfl⟩, _, _, rfl, rfl, _, rfl, ite2 (fun hpos => ?_) (fun _ => mk CS)⟩
          have hpos := of_decide_eq_true hpos
          refine ⟨_, rfl, .inl ⟨rfl, _, SqL.of hz⟩, _, rfl, .inl ⟨rfl, _, SqL.of hz⟩, _, rfl, _, rfl, _, _, rfl, .inl ⟨_, SqL.of hz, rfl⟩, b, c, (zs.length : Nat), rfl, CS.bag, by omega, by omega, fun v H7 v0 v1 B7 k7 => ?_⟩
          have CS7 := CS.draw CD B7 k7
          have hz7 := k7.at_ _ _ hz (by simpa using CD.m.1)
          have RZ7 := RZ.kp (k7.mono (by simp))
          obtain ⟨y, hy⟩ : ∃ y, zs[v.toNat]? = some y := ⟨_, List.getElem?_eq_getElem (by omega)⟩
          have e0 : ((v.toNat : Nat) : Int) = v := Int.toNat_of_nonneg v0
          obtain ⟨a1, b1, r1, rfl, er, ha1, hb1, nb1⟩ := RZ7.get hy
          refine ⟨M, zs, v, v.toNat, .ref a1, rfl, rfl, hz7, by omega, by omega, e0 ▸ (ixN_seq (ixN_nat (show v.toNat < zs.length by omega))).1, hy, ?_⟩
          refine ⟨M, _, _, rfl, rfl, upd_same, small1000 (by have := List.length_eraseIdx_le zs v.toNat; omega), ?_⟩
          rw [show ∀ (o o' : HO), upd (upd H7 M o) M o' = upd H7 M o' from fun o o' => by
            funext x
            by_cases z : x = M
            · rw [z, upd_same, upd_same]
            · rw [upd_ne z, upd_ne z, upd_ne z]]
          have RE := (RZ7.erase v.toNat).snoc (r := r1) ha1 hb1 nb1
          have perm : ∀ x, x ∈ ps.eraseIdx v.toNat ++ [r1] ↔ x ∈ ps := fun x => by
            have e1 : ps = ps.take v.toNat ++ r1 :: ps.drop (v.toNat + 1) := by
              have h1 := List.getElem?_eq_some_iff.mp er
              obtain ⟨hl, he⟩ := h1
              rw [← he, List.getElem_cons_drop, List.take_append_drop]
            rw [List.eraseIdx_eq_take_drop_succ]
            conv => rhs; rw [e1]
            simp only [List.mem_append, List.mem_cons, List.mem_singleton, List.not_mem_nil, or_false]
            constructor
            · rintro ((h | h) | h)
              · exact .inl h
              · exact .inr (.inr h)
              · exact .inr (.inl h)
            · rintro (h | h | h)
              · exact .inl (.inl h)
              · exact .inr h
              · exact .inl (.inr h)
          refine mk (CS7.setM CD RE ⟨?_, fun r hr => CS.okp.2 r ((perm r).mp hr)⟩ (names_sub fun r hr => (perm r).mpr hr))
          rw [List.length_append, List.length_singleton]
          have : (ps.eraseIdx v.toNat).length = ps.length - 1 := List.length_eraseIdx_of_lt (by omega)
          omega
        clear CS
        rintro σ H6 ⟨⟨o11, rfl⟩, ps, g, pw, CS⟩
        refine ⟨Mid b c R G W kd M T O U o9 o10 H us, ?_, ?_⟩
        · refine ⟨_, rfl, rfl, _, rfl, ite2 (fun _ => ?_) (fun _ => mk CS)⟩
          refine ⟨_, rfl, _, _, rfl, .inl ⟨_, SqL.of CS.used, rfl⟩, _, _, rfl, rfl, _, rfl, ite2 (fun hpos => ?_) (fun _ => mk CS)⟩
          have hpos := of_decide_eq_true hpos
          refine ⟨_, rfl, _, _, rfl, .inl ⟨_, SqL.of CS.told, rfl⟩, _, _, rfl, rfl, _, rfl, ite2 (fun h3 => ?_) (fun _ => mk CS)⟩
          have h3 := of_decide_eq_true h3
          rw [List.length_map] at hpos h3
          have lu := CS.lu
          refine ⟨_, rfl, .inl ⟨rfl, _, SqL.of CS.told⟩, _, rfl, _, rfl, _, rfl, _, _, rfl, .inl ⟨_, SqL.of CS.used, rfl⟩, b, c, ((us.map V.str).length : Nat), rfl, CS.bag, by rw [List.length_map]; omega, by rw [List.length_map]; omega, fun v H7 v0 v1 B7 k7 => ?_⟩
          rw [List.length_map] at v1
          have CS7 := CS.draw CD B7 k7
          obtain ⟨w1, hw1⟩ : ∃ w1, us[v.toNat]? = some w1 := ⟨_, List.getElem?_eq_getElem (by omega)⟩
          have w1u := CS.uin w1 (List.mem_of_getElem? hw1)
          refine ⟨U, _, v, .str w1, rfl, rfl, SqL.of CS7.used, atI_of v0 (by rw [List.getElem?_map, hw1]; rfl), ?_⟩
          refine ⟨T, _, _, rfl, rfl, CS7.told, by rw [List.length_map]; omega, ?_⟩
          have := CS7.setT (g' := g ++ [.inr w1]) CD ⟨by rw [List.length_append, List.length_singleton]; omega, fun k hk => ?_, fun s hs => ?_⟩
          · rw [List.map_append] at this
            exact mk this
          · rcases List.mem_append.mp hk with h | h
            · exact CS.okg.2.1 k h
            · rw [List.mem_singleton.mp h]
              rcases foldR_back ps [] w1 w1u with q | ⟨r, hr, q⟩
              · cases q
              · exact (CS.okp.2 r hr).2.2.2 _ q
          · rcases List.mem_append.mp hs with h | h
            · exact CS.okg.2.2 s h
            · cases List.mem_singleton.mp h; exact w1u
        clear CS
        rintro σ H6 ⟨⟨o11, rfl⟩, ps, g, pw, CS⟩
        refine ⟨Mid b c R G W kd M T O U o9 o10 H us, ?_, ?_⟩
        · refine ⟨_, rfl, rfl, _, rfl, ite2 (fun _ => ?_) (fun _ => mk CS)⟩
          refine ⟨_, rfl, _, _, rfl, .inl ⟨_, SqL.of CS.used, rfl⟩, _, _, rfl, rfl, _, rfl, ite2 (fun hpos => ?_) (fun _ => mk CS)⟩
          have hpos := of_decide_eq_true hpos
          rw [List.length_map] at hpos
          have lu := CS.lu
          refine ⟨_, rfl, _, rfl, _, rfl, _, _, rfl, .inl ⟨_, SqL.of CS.used, rfl⟩, b, c, ((us.map V.str).length : Nat), rfl, CS.bag, by rw [List.length_map]; omega, by rw [List.length_map]; omega, fun v H7 v0 v1 B7 k7 => ?_⟩
          rw [List.length_map] at v1
          have CS7 := CS.draw CD B7 k7
          obtain ⟨w1, hw1⟩ : ∃ w1, us[v.toNat]? = some w1 := ⟨_, List.getElem?_eq_getElem (by omega)⟩
          have w1u := CS.uin w1 (List.mem_of_getElem? hw1)
          refine ⟨U, _, v, .str w1, rfl, rfl, SqL.of CS7.used, atI_of v0 (by rw [List.getElem?_map, hw1]; rfl), ?_⟩
          obtain ⟨n, hn, hn2⟩ := pwKv_val w1 pw
          have n0 : 0 ≤ n ∧ n ≤ 100 := by
            rcases hn2 with rfl | ⟨p, hp, rfl⟩
            · exact ⟨by decide, by decide⟩
            · have := CS.okw.2 p hp
              exact ⟨by omega, this.2.2⟩
          have e0 := Int.emod_nonneg (n + 1) (show (100 : Int) ≠ 0 by decide)
          have e1 := Int.emod_lt_of_pos (n + 1) (show (0 : Int) < 100 by decide)
          refine ⟨_, rfl, O, rfl, .inl ⟨_, .inl CS7.pws⟩, _, rfl, _, .inl ⟨_, .inr w1, .inl CS7.pws, rfl, rfl⟩, ?_⟩
          rw [hn]
          refine ⟨_, _, rfl, rfl, .inl ⟨_, rfl, ?_⟩⟩
          refine ⟨_, _, rfl, rfl, by show (0 : Int) < 100; decide, _, _, rfl, rfl, ?_⟩
          have lw := CS.okw.len
          have lN := namesP_len CS.okp
          refine ⟨_, rfl, _, rfl, O, _, rfl, .inl ⟨_, .inr w1, CS7.pws, rfl, by rw [show (pwKv pw).length = pw.length from List.length_map ..]; omega, rfl⟩, ?_⟩
          rw [putP_kv]
          exact mk (CS7.setO CD (putP_ok CS.okw w1u (by omega) (by omega)))
        clear CS
        rintro σ H6 ⟨⟨o11, rfl⟩, ps, g, pw, CS⟩
        refine ⟨Mid b c R G W kd M T O U o9 o10 H us, ?_, ?_⟩
        · obtain ⟨zs, hz, RZ⟩ := CS.rows
          have lz := RZ.len
          refine ⟨_, rfl, rfl, _, rfl, ite2 (fun _ => ?_) (fun _ => mk CS)⟩
          refine ⟨_, rfl, _, _, rfl, .inl ⟨_, SqL.of hz, rfl⟩, _, _, rfl, rfl, _, rfl, ite2 (fun h6 => ?_) (fun _ => mk CS)⟩
          have h6 := of_decide_eq_true h6
          refine ⟨_, rfl, .inl ⟨rfl, _, SqL.of hz⟩, _, rfl, b, c, rfl, CS.bag, fun v H7 hv B7 k7 => ⟨by show 1 ≤ sizeLine; decide, fun l hl => ⟨by show 2 ≤ sizeLine; decide, fun t ht => ?_⟩⟩⟩
          have CS7 := CS.draw CD B7 k7
          have hz7 := k7.at_ _ _ hz (by simpa using CD.m.1)
          have RZ7 := RZ.kp (k7.mono (by simp))
          have kt : Kp [] H7 (upd (upd H7 l (.lst [.int v])) t (.tup [.str "t", .ref l])) := (Kp.new hl).snoc ht
          have hz8 := kt.at_ _ _ hz7 (fun z => nomatch z)
          have hl8 : upd (upd H7 l (.lst [.int v])) t (.tup [.str "t", .ref l]) l = some (.lst (([.inl v] : List Key).map kV)) := (Kp.new (ms := []) ht).at_ _ _ upd_same (fun z => nomatch z)
          have lM : l ≠ M := fun z => by rw [z, hz7] at hl; cases hl
          have lb : l ≠ b := fun z => by
            obtain ⟨o, ho⟩ := B7.someB
            rw [← z, hl] at ho; cases ho
          have lT : l ≠ T := fun z => by have := CS7.told; rw [← z, hl] at this; cases this
          have lO : l ≠ O := fun z => by have := CS7.pws; rw [← z, hl] at this; cases this
          refine ⟨M, _, _, rfl, rfl, hz8, by have := CS.okp.1; omega, ?_⟩
          have RE := (RZ7.kp kt.zero).snoc (r := ("t", [.inl v])) upd_same hl8 (by simp [lM, lb, lT, lO])
          refine mk ((CS7.keep0 kt).setM CD RE ⟨by rw [List.length_append, List.length_singleton]; omega, fun r hr => ?_⟩ (names_sub fun r hr => List.mem_append_left _ hr))
          rcases List.mem_append.mp hr with h | h
          · exact CS.okp.2 r h
          · rw [List.mem_singleton.mp h]
            refine ⟨isNm_t, by show 1 ≤ 1; decide, by show 1 ≤ 4; decide, fun k hk => ?_⟩
            rw [List.mem_singleton.mp hk]; exact hv
        clear CS
        rintro σ H6 ⟨⟨o11, rfl⟩, ps, g, pw, CS⟩
        refine ⟨Mid b c R G W kd M T O U o9 o10 H us, ?_, ?_⟩
        · refine ⟨_, rfl, rfl, _, rfl, ite2 (fun _ => ?_) (fun _ => mk CS)⟩
          refine ⟨_, rfl, _, _, rfl, .inl ⟨_, SqL.of CS.told, rfl⟩, _, _, rfl, rfl, _, rfl, ite2 (fun hpos => ?_) (fun _ => mk CS)⟩
          have hpos := of_decide_eq_true hpos
          rw [List.length_map] at hpos
          have l3 := CS.okg.1
          refine ⟨_, rfl, b, c, rfl, CS.bag, fun v H7 hv B7 k7 => ?_⟩
          have CS7 := CS.draw CD B7 k7
          refine ⟨_, rfl, _, rfl, _, rfl, _, _, rfl, .inl ⟨_, SqL.of CS7.told, rfl⟩, b, c, ((g.map kV).length : Nat), rfl, CS7.bag, by rw [List.length_map]; omega, by rw [List.length_map]; omega, fun r H8 r0 r1 B8 k8 => ?_⟩
          rw [List.length_map] at r1
          have CS8 := CS7.draw CD B8 k8
          have e0 : ((r.toNat : Nat) : Int) = r := Int.toNat_of_nonneg r0
          refine ⟨T, _, r, r.toNat, rfl, rfl, CS8.told, e0 ▸ ixN_nat (by rw [List.length_map]; omega), ?_⟩
          have := CS8.setT (g' := g.set r.toNat (.inl v)) CD ⟨by rw [List.length_set]; exact l3, fun k hk => ?_, fun s hs => ?_⟩
          · rw [List.map_set] at this
            exact mk this
          · rcases List.mem_or_eq_of_mem_set hk with h | h
            · exact CS.okg.2.1 k h
            · rw [h]; exact hv
          · rcases List.mem_or_eq_of_mem_set hs with h | h
            · exact CS.okg.2.2 s h
            · cases h
        clear CS
        rintro σ H6 ⟨⟨o11, rfl⟩, ps, g, pw, CS⟩
        obtain ⟨zs, hz, RZ⟩ := CS.rows
        refine ⟨_, rfl, _, rfl, _, rfl, by show 3 ≤ sizeLine; decide, fun q hq => ?_⟩
        have kq : Kp [] H6 (upd H6 q (.tup [.ref M, .ref T, .ref O])) := Kp.new hq
        exact k q M T O ps g pw _ (CS.bag.keep0 kq) (CS.kp.trans kq.zero) upd_same ⟨⟨zs, kq.at_ _ _ hz (fun z => nomatch z), (RZ.kp kq.zero).mono (by simp)⟩, by simpa using CD.m.1, kq.at_ _ _ CS.told (fun z => nomatch z), by simpa using CD.t.1, kq.at_ _ _ CS.pws (fun z => nomatch z), by simpa using CD.o.1, CS.okp, CS.okg, CS.okw⟩
end
end Fm

namespace Fm
open PySem PySem.Spec PyProof.Rows L2
/-! ### repr of data: a rule, where no repr is under way -/
section
variable {X : Cx} {pins : List (Addr × Obj)} {σ : L2.St} {H : Hp} {s : Shared}
theorem rd_ex {H : Hp} {a : Addr} {u : HO} (h : Rd H a u) : ∃ o, H a = some o := h.elim (fun h => ⟨_, h⟩) fun ⟨o, h⟩ => ⟨_, h⟩
mutual
theorem Dt.readsX {S : Addr → Prop} {q : Bool} (I : L2.Inv X pins σ H s) : ∀ {n : Nat} {v : V} {d : PyData} {u : Value}, Dt S q H n v d → RelV v u → ∃ as, Reads s.heap u d as ∧ ∀ a ∈ as, ∃ o, H a = some o
  | _, _, _, _, .non, r => by cases r; exact ⟨_, Reads.none, fun a h => nomatch h⟩
  | _, _, _, _, .bl b, r => by cases r; exact ⟨_, Reads.bool b, fun a h => nomatch h⟩
  | _, _, _, _, .int i, r => by obtain ⟨t, rfl⟩ := r; exact ⟨_, Reads.int i t, fun a h => nomatch h⟩
  | _, _, _, _, .str x _, r => by obtain ⟨t, rfl⟩ := r; exact ⟨_, Reads.str x t, fun a h => nomatch h⟩
  | _, _, _, _, .lst rx l a, r => by
    cases r
    obtain ⟨its, rv, ⟨o, n, ho, hc, _, hd⟩, _⟩ := I.list (show SqL X.K H _ _ from .inl rx)
    obtain ⟨as, hr, ha⟩ := DtAll.readsX I a rv
    refine ⟨_, Reads.list ho hc hd hr, fun b hb => ?_⟩
    rcases List.mem_cons.mp hb with rfl | hb
    · exact rd_ex rx
    · exact ha b hb
  | _, _, _, _, .tup rx l a, r => by
    cases r
    obtain ⟨its, rv, ⟨o, ho, hc, n, hd⟩, _⟩ := I.tuple (show SqT X.K H _ _ from .inl (.inl rx))
    obtain ⟨as, hr, ha⟩ := DtAll.readsX I a rv
    exact ⟨_, Reads.tuple ho hc hd hr, ha⟩
  | _, _, _, _, .dic (kvs := kvs) rx l a, r => by
    cases r
    have rx' : Rd H _ (.dK kvs) := (by
      unfold DkAt at rx
      cases q with
      | true => exact .inl rx
      | false => exact rx)
    obtain ⟨_, _, vs, rel, dd⟩ := dk_rd I.hok rx'
    obtain ⟨bs, hp, hb⟩ := DtKV.readsX I a rel
    refine ⟨_, PyProof.V.reads_dictOf (enc := keyD) (fun k key hk => ?_) dd hp, fun b hb' => ?_⟩
    · rcases keyIs_shape hk with ⟨i, t, rfl, rfl⟩ | ⟨x, t, rfl, rfl⟩
      · exact .int _ _
      · exact .str _ _
    · rcases List.mem_cons.mp hb' with rfl | h
      · exact rd_ex rx'
      · exact hb b h
theorem DtAll.readsX {S : Addr → Prop} {q : Bool} (I : L2.Inv X pins σ H s) : ∀ {n : Nat} {v : List V} {d : List PyData} {u : List Value}, DtAll S q H n v d → Vals v u → ∃ as, ReadsAll s.heap u d as ∧ ∀ a ∈ as, ∃ o, H a = some o
  | _, _, _, _, .nil, r => by cases r; exact ⟨_, ReadsAll.nil, fun a h => nomatch h⟩
  | _, _, _, _, .cons a b, r => by
    cases r with
    | cons r1 r2 =>
      obtain ⟨as, q1, h1⟩ := Dt.readsX I a r1
      obtain ⟨bs, q2, h2⟩ := DtAll.readsX I b r2
      exact ⟨_, ReadsAll.cons q1 q2, fun x hx => (List.mem_append.mp hx).elim (h1 x) (h2 x)⟩
theorem DtKV.readsX {S : Addr → Prop} {q : Bool} (I : L2.Inv X pins σ H s) : ∀ {n : Nat} {v : List (Key × V)} {d : List (PyData × PyData)} {u : List (Key × Value)}, DtKV S q H n v d → KV v u → ∃ as, PyProof.V.PairsRead s.heap keyD u d as ∧ ∀ a ∈ as, ∃ o, H a = some o
  | _, _, _, _, .nil, r => by cases r; exact ⟨_, .nil, fun a h => nomatch h⟩
  | _, _, _, _, .cons (k := k) a b, r => by
    cases r with
    | cons r1 r2 =>
      rename_i q1 _
      obtain ⟨qk, qv⟩ := q1
      obtain ⟨e, r1⟩ := r1
      have e : k = qk := e
      subst e
      obtain ⟨as, q1, h1⟩ := Dt.readsX I a r1
      obtain ⟨bs, q2, h2⟩ := DtKV.readsX I b r2
      exact ⟨_, .cons q1 q2, fun x hx => (List.mem_append.mp hx).elim (h1 x) (h2 x)⟩
end
end
def rRepr : List V → Hp → VK → Prop := fun vs H Q => ∃ (S : Addr → Prop) (q : Bool) (n : Nat) (a : Addr) (d : PyData), vs = [V.ref a] ∧ Dt S q H n (.ref a) d ∧ d.showable = true ∧ d.shown.length ≤ sizeLine ∧ d.depth ≤ 60 ∧ Q (.str d.shown) H
section
variable {X : Cx}
theorem cr_repr (hg : X.A.guards = some []) (hu : X.A.units + 64 < cLine) (hs : ∃ o, X.base.get? sysModules = some o) : CallR X (.builtin "repr") rRepr := by
  intro pins s σ H vs us Q I r h
  obtain ⟨S, q, n, a, d, rfl, hd, hsh, hsz, hdp, k⟩ := h
  obtain ⟨u, rfl, ru⟩ := vals1 r
  obtain rfl : u = Value.ref a := ru
  obtain ⟨as, rd, ha⟩ := Dt.readsX I hd rfl
  refine repr_of_reads' (h₀ := s.heap) rd hsh (fun _ hm => ?_) hg (by omega) (fun _ _ e => e) (fun h' u tk hk => ?_) hsz
  · obtain ⟨o, ho⟩ := ha _ hm
    obtain ⟨ob, hb⟩ := hs
    obtain ⟨e1, e2⟩ := I.ok.bs _ _ hb
    have e3 := I.base.free _ _ e1 e2 (I.ok.noex _ _ hb)
    rw [e3] at ho
    cases ho
  · exact ⟨.str d.shown, H, I.kept hk, ⟨_, rfl⟩, k⟩
end
end Fm

namespace Fm
open PySem PySem.Spec PyProof.Rows L2
/-! ### the law's def where the judge calls it: no repr is under way there -/
/-- a promise of a def that is called by the judge -/
structure TopOk (P : Program) (w : World) (K : PySem.W.Frag) (mg : Str → Option Value) (base : Heap) (f : Addr) (fd : FuncData) (ps : List Str) (sp : Sp) : Prop where
  run : ∀ (s : Shared) (H : Hp) (us : List Value) (vs : List V) (Q : VK), Env0 P w K mg base callerA [] s H → BindsTo s fd ⟨us, []⟩ (ps.zip us) → Vals vs us → sp vs H Q E0 →
    codeAny (model P w) callerA (.call (.ref f) ⟨us, []⟩) (CR CX0 [] P w H s Q E0) s
section
variable {P : Program} {w : World} {K : PySem.W.Frag} {mg : Str → Option Value} {base : Heap}
theorem Fun.top {x qual : Str} {st : Stmt} {f : Addr} {fd : FuncData} {N ps : List Str} {k : Nat} {sp : Sp} (F : Fun K x qual st f fd) (S : FnScope N ps (defScope st)) (hr : Room (k + 1) callerA) (len : ∀ vs H Q E, sp vs H Q E → vs.length = ps.length)
    (hbody : ∀ (cdv : Value) (s : Shared) (H : Hp) (vs : List V) (Q : VK), Room k (callerA.deeper (envOfC qual (defScope st) s.heap.objs.size f cdv)) → sp vs H Q E0 →
      ∃ t, PSs (cxOf CX0 P w K mg base N qual (defScope st) f cdv callerA [] s H E0).nox (defBody st) t ∧ t { nx := fun _ H' => Q .non H', rt := Q } (start N vs) H) : TopOk P w K mg base f fd ps sp := by
  obtain ⟨oc, od, kV, doc, pm, an, cdv, ct, osl, rfl, lk, hcd⟩ := F.ex
  refine ⟨fun s H us vs Q e0 hb r hsp => ?_⟩
  have stands : ∀ b o, base.get? b = some o → s.heap.get? b = some o := fun b o e => (e0.bs b o e).1
  have KX : K.In s.heap := e0.mod.kin.keeps stands
  have named : ∀ y ∈ ps.zip us, (defScope st).names.lookup y.1 = some .local ∨ ((defScope st).names.lookup y.1 = some .cell ∧ ((cellsFrom (s.heap.objs.size + 1) (defScope st).names []).lookup y.1).isSome = true) := fun y hy =>
    (S.par y.1 (List.of_mem_zip (a := y.1) (b := y.2) hy).1).imp id fun q => ⟨q, PySem.W.cellsFrom_some _ _ _ (.inl q)⟩
  refine codeAny_call_function hr.depth (KX _ _ lk) rfl S.co S.gen rfl (PySem.W.codeRec_of KX hcd) (hb _ _ _ _ ?_)
  refine wpAny_newFunctionEnv_cells S.kind named fun env he s1 inC => ?_
  subst he
  refine ⟨(e0.mod.nolimit.keeps stands).keeps inC.toInCall.keep, codeAny_func ?_⟩
  obtain ⟨t, ht, hq⟩ := hbody cdv s H vs Q (hr.deeper _) hsp
  have I := inv_start (CX := CX0) (E := E0) S hr.hd e0 (len _ _ _ _ hsp) r inC
  refine wpAny_mono (ht.nox.run [] s1 (start N vs) H _ I hq) (fun fl s' hs => ?_) fun _ _ z => z
  cases fl with
  | ret u =>
    obtain ⟨v, _, H', J, rv, q⟩ := hs
    exact ⟨v, H', J.os, J.bare, J.base, J.hok, rv, q⟩
  | next =>
    obtain ⟨_, H', J, q⟩ := hs
    exact ⟨.non, H', J.os, J.bare, J.base, J.hok, rfl, q⟩
  | brk => exact hs.elim fun _ h => h.elim fun _ h => False.elim h.2
  | cont => exact hs.elim fun _ h => h.elim fun _ h => False.elim h.2
theorem top_call {mb : Str → Option Value} {fa a : Addr} {fd : FuncData} {x : Str} {sp : Sp} {s₁ : Shared} {us : List Value} {ns : List Int} (KX : K.In s₁.heap) (hns : s₁.heap.Ns mainGlobals mg) (hb : s₁.heap.Ns builtinsNs mb) (hbb : ∀ x : Str, x ≠ "__name__" → mb x = bootBuiltins x)
    (hlim : s₁.heap.NoLimit) (hsys : ∃ mm, s₁.heap.Ns sysModules mm) (hg : s₁.gens = #[]) (ha : s₁.heap.get? a = some { cls := .type "list", data := .seq us.toArray }) (hi : IntsAre us ns) (hl : ns.length ≤ sizeLine)
    (F : ∀ base : Heap, K.In base → base.Ns mainGlobals mg → (∃ o, base.get? sysModules = some o) → TopOk P w K mg base fa fd [x] sp) (hbind : ∀ (s : Shared) (u : Value), BindsTo s fd ⟨[u], []⟩ [(x, u)])
    (hsp : ∀ H : Hp, SqL K H a (ns.map V.int) → sp [.ref a] H (fun v _ => v = .bl true) E0) :
    codeAny (model P w) callerA (.call (.ref fa) ⟨[.ref a], []⟩) (fun r s' => r = .ok (.ret (.bool true)) ∧ OldK s₁.heap s'.heap ∧ s'.os = s₁.os ∧ AllBare s'.gens) s₁ := by
  have rv := vals_ints hi
  -- what is told of the heap: the script alone, if it is no object of the module
  obtain ⟨H, hS, hok, hA, hO⟩ : ∃ H : Hp, SqL K H a (ns.map V.int) ∧ HOk P w H s₁.heap ∧ (∀ b, H b ≠ none → b = a ∧ K.lookup a = none) ∧ ∀ b u, H b = some u → ∃ o xs, u = .frz o (.lst xs) := by
    cases hk : K.lookup a with
    | some o =>
      have e := KX a o hk
      rw [ha] at e
      cases e
      exact ⟨fun _ => none, .inr ⟨_, us.toArray, _, hk, rfl, rfl, rfl, by rw [List.size_toArray, hi.length]; exact hl, by simpa using rv⟩, fun b u z => (Option.some_ne_none u z.symm).elim, fun b z => absurd rfl z, fun b u z => (Option.some_ne_none u z.symm).elim⟩
    | none =>
      have at_a : ∀ {b : Addr} {u : HO}, (if b = a then some (HO.frz { cls := .type "list", data := .seq us.toArray } (.lst (ns.map V.int))) else none) = some u → b = a ∧ u = .frz { cls := .type "list", data := .seq us.toArray } (.lst (ns.map V.int)) := fun {b u} z => by
        by_cases h : b = a
        · rw [if_pos h] at z; exact ⟨h, (Option.some.inj z).symm⟩
        · rw [if_neg h] at z; cases z
      refine ⟨fun b => if b = a then some (.frz { cls := .type "list", data := .seq us.toArray } (.lst (ns.map V.int))) else none, .inl (.inr ⟨_, if_pos rfl⟩), fun b u z => ?_, fun b z => ⟨?_, rfl⟩, fun b u z => ⟨_, _, (at_a z).2⟩⟩
      · obtain ⟨rfl, rfl⟩ := at_a z
        exact ⟨ha, by rw [List.length_map]; exact hl, us, _, rv, ha⟩
      · cases h : (if b = a then some (HO.frz { cls := .type "list", data := .seq us.toArray } (.lst (ns.map V.int))) else none) with
        | none => exact absurd h z
        | some u => exact (at_a h).1
  -- objects that are no list stand in the base
  have stays : ∀ {b : Addr} {o : Obj}, s₁.heap.get? b = some o → (b = a → K.lookup a ≠ none ∨ ∃ es ep, o.data = .dict es ep) → (hidT s₁.heap H).get? b = some o := fun {b o} e h => by
    refine hidT_get e ?_
    cases q : H b with
    | none => rfl
    | some u =>
      obtain ⟨rfl, hk⟩ := hA b (by rw [q]; simp)
      rcases h rfl with h | ⟨es, ep, h⟩
      · exact absurd hk h
      · rw [ha] at e; cases e; cases h
  have ns_stays : ∀ {b : Addr} {m : Str → Option Value}, s₁.heap.Ns b m → (hidT s₁.heap H).Ns b m := fun {b m} ⟨o, es, ep, e, d, r⟩ => ⟨o, es, ep, stays e fun _ => .inr ⟨es, ep, d⟩, d, r⟩
  have kin : K.In (hidT s₁.heap H) := fun b o e => stays (KX b o e) fun z => .inl (by rw [← z, e]; simp)
  have md : Mod K mg (hidT s₁.heap H) := ⟨kin, ns_stays hns, ⟨mb, ns_stays hb, hbb⟩, hlim.elim fun mc h => ⟨mc, ns_stays h.1, h.2⟩⟩
  have e0 : Env0 P w K mg (hidT s₁.heap H) callerA [] s₁ H := ⟨rfl, md, fun b o e => of_hidT e, Nat.le_of_eq (hidT_size _ _), trivial, (fun b z => absurd (show b ∈ ([] : List Addr) from z) List.not_mem_nil), hok, .of_eq hg⟩
  have sysb : ∃ o, (hidT s₁.heap H).get? sysModules = some o := by
    obtain ⟨mm, h⟩ := hsys
    obtain ⟨o, _, _, e, _⟩ := ns_stays h
    exact ⟨o, e⟩
  refine codeAny_mono ((F _ kin (ns_stays hns) sysb).run s₁ H [.ref a] [.ref a] _ e0 (hbind s₁ (.ref a)) (.cons rfl .nil) (hsp H hS)) fun r s' h => ?_
  cases r with
  | error e => exact False.elim h
  | ok fl =>
    cases fl with
    | ret u =>
      obtain ⟨v, H', os, bare, un, hok', r', q⟩ := h
      have q : v = .bl true := q
      subst q
      have r' : u = Value.bool true := r'
      subst r'
      refine ⟨rfl, OldK.of_keep fun b o e => ?_, os, bare⟩
      cases q : H b with
      | none => exact un.keep b o e q (show b ∉ ([] : List Addr) from List.not_mem_nil) List.not_mem_nil
      | some u =>
        obtain ⟨ob, xs, rfl⟩ := hO b u q
        have e1 := (hok b _ q).1
        have e2 := (hok' b _ (un.frzs b ob _ q)).1
        rw [e] at e1; cases e1
        exact e2
    | _ => exact False.elim h
/-- the walk: as the layer's walk_of, for a promise at the top -/
theorem walk_top {l : PySem.W.OpenLaw} {n : Nat} {q : Program} {loose : List Str} {XP : (Str → Option Value) → Heap → Prop} {YP : World → Heap → Prop} {d : DefRec} {K : Params → PySem.W.Frag} {sp : World → Sp} {x : Str}
    (hn : l.most = some n) (hn2 : n ≤ sizeLine) (hdf : d.params.defaults = []) (hq : importsNone q = true)
    (hY : ∀ (w : World) (h : Heap), YP w h → (K w.params).In h)
    (F : ∀ (w : World) (mg : Str → Option Value) (fa : Addr) (h : Heap), (K w.params).In h → h.Ns mainGlobals mg → mg d.name = some (.ref fa) →
      ∃ fd : FuncData, (∀ (s : Shared) (u : Value), BindsTo s fd ⟨[u], []⟩ [(x, u)]) ∧
        ∀ base : Heap, (K w.params).In base → base.Ns mainGlobals mg → (∃ o, base.get? sysModules = some o) → TopOk l.prog w (K w.params) mg base fa fd [x] (sp w))
    (hsp : ∀ (w : World) (H : Hp) (a : Addr) (ns : List Int), ns.length ≤ n → SqL (K w.params) H a (ns.map V.int) → sp w [.ref a] H (fun v _ => v = .bl true) E0) :
    PySem.W.WalkO q loose XP YP l.row.toRowW d [] (fun f vs => PySem.call f vs) := by
  refine Att.attach_call hn hdf fun w s₀ s₁ mg mb fa o pm cd doc a vs ns G Y ho hd hcd hmg hobj hints hlen hg => ?_
  have KX := hY w _ Y
  obtain ⟨fd, hb, hF⟩ := F w mg fa _ KX G.T.g hmg
  obtain ⟨ms, h1, h2⟩ := (G.T.seer hq).mods
  exact top_call KX G.T.g G.T.b G.T.builtins G.T.nolimit ⟨ms, h1⟩ hg hobj hints (Nat.le_trans hlen hn2) hF hb fun H hS => hsp w H a ns hlen hS
end
end Fm

namespace Fm
open PySem PySem.Spec PyProof.Rows L2
/-! ### what is handed in as data that repr shows -/
structure Rp (w k : Nat) (d : PyData) : Prop where
  sh : d.showable = true
  lv : d.leavesShort 13 = true
  wt : d.weight ≤ w
  dp : d.depth ≤ k
theorem Rp.mono {w k w' k' : Nat} {d : PyData} (h : Rp w k d) (a : w ≤ w') (b : k ≤ k') : Rp w' k' d := ⟨h.sh, h.lv, Nat.le_trans h.wt a, Nat.le_trans h.dp b⟩
theorem rp_int {i : Int} (h : InV i) : Rp 40 0 (.int i) := by
  have l : i.natAbs.log2 < 31 := by
    by_cases z : i.natAbs = 0
    · rw [z]; decide
    · refine (Nat.log2_lt z).mpr ?_
      have := h.1
      have := h.2
      have : (2 : Nat) ^ 31 = 2147483648 := by decide
      omega
  refine ⟨?_, ?_, ?_, ?_⟩
  · simp only [PyData.showable, decide_eq_true_eq]; omega
  · simp only [PyData.leavesShort, decide_eq_true_eq]
    exact PyData.shown_int_le2 (by have := h.1; omega) (by have := h.2; omega)
  · simp only [PyData.weight]
    split <;> omega
  · simp [PyData.depth]
theorem rp_str {s : Str} {n : Nat} (hl : s.length ≤ n) (hc : PyData.strOk s = true) : Rp n 0 (.str s) := by
  refine ⟨by simp [PyData.showable], ?_, hl, by simp [PyData.depth]⟩
  simp only [PyData.leavesShort, List.all_eq_true, decide_eq_true_eq]
  intro c hcm
  have h0 : s.cps.all (· < 0x110000) = true := by simpa only [PyData.strOk] using hc
  have := (Array.all_eq_true_iff_forall_mem.mp h0) c (Array.mem_toList_iff.mp hcm)
  have : c < 0x110000 := by simpa using this
  have e : (16 : Nat) ^ 8 = 4294967296 := by decide
  omega
theorem rp_all {w k : Nat} : ∀ {ds : List PyData}, (∀ d ∈ ds, Rp w k d) → PyData.showableAll ds = true ∧ PyData.leavesShortAll 13 ds = true ∧ PyData.weightAll ds ≤ (w + 1) * ds.length ∧ PyData.depthAll ds ≤ k
  | [], _ => ⟨by simp [PyData.showableAll], by simp [PyData.leavesShortAll], by simp [PyData.weightAll], by simp [PyData.depthAll]⟩
  | d :: ds, h => by
    obtain ⟨a, b, c, e⟩ := rp_all fun x hx => h x (List.mem_cons_of_mem _ hx)
    obtain ⟨a', b', c', e'⟩ := h d List.mem_cons_self
    refine ⟨by simp only [PyData.showableAll, a, a', Bool.and_self], by simp only [PyData.leavesShortAll, b, b', Bool.and_self], ?_, ?_⟩
    · simp only [PyData.weightAll, List.length_cons, Nat.mul_succ]
      omega
    · simp only [PyData.depthAll]
      omega
theorem rp_lst {w k n : Nat} {ds : List PyData} (h : ∀ d ∈ ds, Rp w k d) (hn : ds.length ≤ n) : Rp ((w + 1) * n) (k + 1) (.list ds) ∧ Rp ((w + 1) * n) (k + 1) (.tuple ds) := by
  obtain ⟨a, b, c, e⟩ := rp_all h
  have m : (w + 1) * ds.length ≤ (w + 1) * n := Nat.mul_le_mul_left _ hn
  refine ⟨⟨by simpa only [PyData.showable] using a, by simpa only [PyData.leavesShort] using b, ?_, ?_⟩, by simpa only [PyData.showable] using a, by simpa only [PyData.leavesShort] using b, ?_, ?_⟩
  · simp only [PyData.weight]; omega
  · simp only [PyData.depth]; omega
  · simp only [PyData.weight]; omega
  · simp only [PyData.depth]; omega
def KeyR : Key → Prop
  | .inl i => InV i
  | .inr s => s ∈ txs
theorem rp_key {k : Key} (h : KeyR k) : Rp 100 0 (keyD k) := by
  cases k with
  | inl i => exact (rp_int h).mono (by decide) (Nat.le_refl _)
  | inr s => exact rp_str (txs_short s h) (txs_ok s h)
theorem nm_ok {s : Str} (h : IsNm s) : Rp 100 0 (.str s) := rp_str (by have := h.2.1; omega) (strOk_nm h)
/-- symbols as a list or a tuple -/
theorem rowx_dt {H : Hp} {b : Addr} {ks : List Key} {n : Nat} (h : RowX H b (ks.map kV)) (hl : ks.length ≤ 4) (hk : ∀ k ∈ ks, KeyR k) (hs : ∀ k ∈ ks, SymOk k) : ∃ d, Dt (fun _ => True) false H (n + 1) (.ref b) d ∧ Rp 404 1 d := by
  have r := rp_lst (w := 100) (k := 0) (n := 4) (ds := ks.map keyD) (fun d hd => by
    obtain ⟨k, hk', rfl⟩ := List.mem_map.mp hd
    exact rp_key (hk k hk')) (by rw [List.length_map]; exact hl)
  have a : DtAll (fun _ => True) false H n (ks.map kV) (ks.map keyD) := dt_syms hs
  have l : (ks.map kV).length ≤ 1000000 := by rw [List.length_map]; omega
  rcases h with h | h
  · exact ⟨_, .lst (.inl h) ⟨l, trivial⟩ a, r.1⟩
  · exact ⟨_, .tup h ⟨l, trivial⟩ a, r.2⟩
theorem grows_dt {F : Addr → Prop} {H : Hp} : ∀ {xs : List V} {ps : List (Str × List Key)}, GRows F H xs ps → (∀ r ∈ ps, IsNm r.1 ∧ r.2.length ≤ 4 ∧ (∀ k ∈ r.2, SymOk k) ∧ ∀ k ∈ r.2, KeyR k) → ∃ ds, DtAll (fun _ => True) false H 2 xs ds ∧ ∀ d ∈ ds, Rp 1000 2 d
  | _, _, .nil, _ => ⟨[], .nil, fun d h => nomatch h⟩
  | _, _, .cons (r := r) a b c d, h => by
    obtain ⟨n, l4, so, kr⟩ := h r List.mem_cons_self
    obtain ⟨ds, h1, h2⟩ := grows_dt d fun x hx => h x (List.mem_cons_of_mem _ hx)
    obtain ⟨e, de, re⟩ := rowx_dt (n := 0) b l4 kr so
    refine ⟨.tuple [.str r.1, e] :: ds, .cons (.tup a ⟨by show 2 ≤ 1000000; decide, trivial⟩ (.cons (.str _ (by have := n.2.1; omega)) (.cons de .nil))) h1, fun d hd => ?_⟩
    rcases List.mem_cons.mp hd with rfl | hd
    · refine ((rp_lst (w := 404) (k := 1) (n := 2) (fun d hd => ?_) (Nat.le_refl _)).2).mono (by decide) (by decide)
      rcases List.mem_cons.mp hd with rfl | hd
      · exact (nm_ok n).mono (by decide) (by decide)
      · rw [List.mem_singleton.mp hd]; exact re
    · exact h2 d hd
theorem pw_dt {H : Hp} {n : Nat} : ∀ {pw : List (Str × Int)}, (∀ p ∈ pw, p.1 ∈ txs ∧ InV p.2) → ∃ ds : List (PyData × PyData), DtKV (fun _ => True) false H n (pwKv pw) ds ∧ PyData.showableKv ds = true ∧ PyData.leavesShortKv 13 ds = true ∧ PyData.weightKv ds ≤ 200 * pw.length ∧ PyData.depthKv ds ≤ 0
  | [], _ => ⟨[], .nil, by simp [PyData.showableKv], by simp [PyData.leavesShortKv], by simp [PyData.weightKv], by simp [PyData.depthKv]⟩
  | p :: pw, h => by
    obtain ⟨ds, h1, h2, h3, h4, h5⟩ := pw_dt (H := H) (n := n) fun x hx => h x (List.mem_cons_of_mem _ hx)
    obtain ⟨a, b⟩ := h p List.mem_cons_self
    obtain ⟨a1, a2, a3, a4⟩ := rp_str (txs_short _ a) (txs_ok _ a)
    obtain ⟨b1, b2, b3, b4⟩ := rp_int b
    refine ⟨(.str p.1, .int p.2) :: ds, .cons (k := .inr p.1) (.int _) h1, ?_, ?_, ?_, ?_⟩
    · simp only [PyData.showableKv, a1, b1, h2, Bool.and_self]
    · simp only [PyData.leavesShortKv, a2, b2, h3, Bool.and_self]
    · simp only [PyData.weightKv, List.length_cons]; omega
    · simp only [PyData.depthKv]; omega
theorem given_dt {F : Addr → Prop} {H : Hp} {A X Y W : Addr} {ps : List (Str × List Key)} {g : List Key} {pw : List (Str × Int)} (h : GivenAt F H A X Y W ps g pw) (ok : PsOk ps) (tx : TxPs ps) (okg : g.length ≤ 3 ∧ (∀ k ∈ g, SymOk k) ∧ ∀ s, Sum.inr s ∈ g → s ∈ namesP ps) (okw : PwOk (namesP ps) pw) : ∃ d, Dt (fun _ => True) false H 4 (.ref A) d ∧ d.showable = true ∧ d.shown.length ≤ sizeLine ∧ d.depth ≤ 60 := by
  have nt : ∀ s ∈ namesP ps, s ∈ txs := fun s hs => by
    rcases foldR_back ps [] s hs with q | ⟨r, hr, q⟩
    · cases q
    · exact tx r hr s q
  obtain ⟨xs, hX, hG⟩ := h.rows
  obtain ⟨ds, d1, r1⟩ := grows_dt hG fun r hr => by
    obtain ⟨a, b, c, e⟩ := ok.2 r hr
    refine ⟨a, c, e, fun k hk => ?_⟩
    cases k with
    | inl i => exact e _ hk
    | inr s => exact tx r hr s hk
  have ld : ds.length = ps.length := by rw [← d1.len, hG.len]
  have rl := rp_lst (n := 6) r1 (by rw [ld]; exact ok.1)
  have lx : xs.length ≤ 1000000 := by rw [hG.len]; have := ok.1; omega
  obtain ⟨dx, hdx, rx⟩ : ∃ dx, Dt (fun _ => True) false H 3 (.ref X) dx ∧ Rp 6006 3 dx := by
    rcases hX with e | e
    · exact ⟨_, .lst (.inl e) ⟨lx, trivial⟩ d1, rl.1.mono (by decide) (by decide)⟩
    · exact ⟨_, .tup e ⟨lx, trivial⟩ d1, rl.2.mono (by decide) (by decide)⟩
  obtain ⟨dy, hdy, ry⟩ := rowx_dt (n := 2) h.grp (by have := okg.1; omega) (fun k hk => by
    cases k with
    | inl i => exact okg.2.1 _ hk
    | inr s => exact nt s (okg.2.2 s hk)) okg.2.1
  obtain ⟨dw, hdw, w1, w2, w3, w4⟩ := pw_dt (H := H) (n := 2) (pw := pw) fun p hp => ⟨nt _ (okw.2 p hp).1, by have := okw.2 p hp; exact ⟨by omega, by omega⟩⟩
  have lw := okw.len
  have n24 := namesP_len ok
  have hW : Dt (fun _ => True) false H 3 (.ref W) (.dict dw) := .dic (show Rd H W _ from .inl h.pws) ⟨⟨by rw [show (pwKv pw).length = pw.length from List.length_map ..]; omega, by rw [pwKv_keys]; exact inr_nd' okw.1⟩, trivial⟩ hdw
  have rw_ : Rp 6006 3 (.dict dw) := ⟨by simpa only [PyData.showable] using w1, by simpa only [PyData.leavesShort] using w2, by simp only [PyData.weight]; omega, by simp only [PyData.depth]; omega⟩
  have ra := (rp_lst (w := 6006) (k := 3) (n := 3) (ds := [dx, dy, .dict dw]) (fun d hd => by
    rcases List.mem_cons.mp hd with rfl | hd
    · exact rx
    · rcases List.mem_cons.mp hd with rfl | hd
      · exact ry.mono (by decide) (by decide)
      · rw [List.mem_singleton.mp hd]; exact rw_) (Nat.le_refl _)).1
  exact ⟨_, .lst (.inl h.all) ⟨by show 3 ≤ 1000000; decide, trivial⟩ (.cons hdx (.cons hdy (.cons hW .nil))), ra.sh, PyData.shown_fits (B := 13) (by decide) (by decide) ra.lv (Nat.le_trans ra.wt (by decide)), Nat.le_trans ra.dp (by decide)⟩
end Fm

namespace Fm
open PySem PySem.Spec PyProof.Rows L2
/-! ### patterns that are made -/
theorem RawAll.g {ms : List Addr} {H : Hp} : ∀ {xs : List V} {ps : List (Str × List Key)}, RawAll ms H xs ps → GRows (fun _ => True) H xs ps
  | _, _, .nil => .nil
  | _, _, .cons a b c d => .cons a (.inl b) trivial d.g
theorem grows_prow {F : Addr → Prop} {H : Hp} : ∀ {xs : List V} {ps : List (Str × List Key)}, GRows F H xs ps → (∀ r ∈ ps, IsNm r.1 ∧ 1 ≤ r.2.length ∧ r.2.length ≤ 4 ∧ ∀ k ∈ r.2, SymOk k) → ∃ es, DtAll (fun _ => True) false H 2 xs es ∧ PRowsD es ps
  | _, _, .nil, _ => ⟨[], .nil, .nil⟩
  | _, _, .cons (r := r) a b c d, h => by
    obtain ⟨es, h1, h2⟩ := grows_prow d fun x hx => h x (List.mem_cons_of_mem _ hx)
    obtain ⟨n, l1, l4, so⟩ := h r List.mem_cons_self
    have ax : DtAll (fun _ => True) false H 0 (r.2.map kV) (r.2.map keyD) := dt_syms so
    have lx : (r.2.map kV).length ≤ 1000000 := by rw [List.length_map]; omega
    obtain ⟨e, de, re⟩ : ∃ e, Dt (fun _ => True) false H 1 (.ref _) e ∧ RowD e (r.2.map keyD) := by
      rcases b with b | b
      · exact ⟨_, .lst (.inl b) ⟨lx, trivial⟩ ax, .inl rfl⟩
      · exact ⟨_, .tup b ⟨lx, trivial⟩ ax, .inr rfl⟩
    exact ⟨.tuple [.str r.1, e] :: es, .cons (.tup a ⟨by show 2 ≤ 1000000; decide, trivial⟩ (.cons (.str _ (by have := n.2.1; omega)) (.cons de .nil))) h1, .cons ⟨e, rfl, n, re, l1, l4, so⟩ h2⟩
theorem pat_make {C : Addr} {F : Addr → Prop} {H : Hp} {X Y W p dx : Addr} {xs : List V} {ps : List (Str × List Key)} {g : List Key} {pw : List (Str × Int)} {Q : Hp → Prop} (hX : RowX H X xs) (hG : GRows F H xs ps) (hY : RowX H Y (g.map kV)) (hW : H W = some (.dK (pwKv pw))) (okp : PsOk ps)
    (okg : g.length ≤ 3 ∧ (∀ k ∈ g, SymOk k) ∧ ∀ s, Sum.inr s ∈ g → s ∈ namesP ps) (okw : PwOk (namesP ps) pw) (np : H p = none) (ndx : H dx = none) (ne : dx ≠ p) (k : ∀ H', Kp [] H H' → PatAt C H' p (canP ps g pw) → Q H') :
    spPatI C [.ref p, .ref X, .ref Y, .ref W] (upd (upd H dx (.own p)) p (.ins C dx [])) (fun v H2 => v = .non ∧ Q H2) E0 := by
  have k0 : Kp [] H (upd (upd H dx (.own p)) p (.ins C dx [])) := (Kp.new ndx).snoc (by rw [upd_ne (Ne.symm ne)]; exact np)
  obtain ⟨es, d1, d2⟩ := grows_prow hG okp.2
  have ax : DtAll (fun _ => True) false H 0 (g.map kV) (g.map keyD) := dt_syms okg.2.1
  have lg : (g.map kV).length ≤ 1000000 := by rw [List.length_map]; have := okg.1; omega
  have lx : xs.length ≤ 1000000 := by rw [hG.len]; have := okp.1; omega
  obtain ⟨d, hd, rd⟩ : ∃ d, Dt (fun _ => True) false H 3 (.ref X) d ∧ RowD d es := by
    rcases hX with h | h
    · exact ⟨_, .lst (.inl h) ⟨lx, trivial⟩ d1, .inl rfl⟩
    · exact ⟨_, .tup h ⟨lx, trivial⟩ d1, .inr rfl⟩
  obtain ⟨dg, hdg, rg⟩ : ∃ d, Dt (fun _ => True) false H 1 (.ref Y) d ∧ RowD d (g.map keyD) := by
    rcases hY with h | h
    · exact ⟨_, .lst (.inl h) ⟨lg, trivial⟩ ax, .inl rfl⟩
    · exact ⟨_, .tup h ⟨lg, trivial⟩ ax, .inr rfl⟩
  refine ⟨p, dx, W, _, _, _, _, _, _, .ref X, .ref Y, d, dg, es, ps, g, pw, rfl, upd_same, hd.keep k0, rd, by rw [d2.len]; exact okp.1, d2, hdg.keep k0, ⟨rg, okg⟩, k0.at_ _ _ hW (fun z => nomatch z), okw, fun H' k1 pa => ⟨rfl, k H' ⟨fun a o e _ => ?_, fun a xs e => k1.tp _ _ (k0.tp _ _ e)⟩ pa⟩⟩
  exact k1.at_ a o (k0.at_ a o e (fun z => nomatch z)) (fun z => by
    have z : a = p := by simpa using z
    rw [z, np] at e; cases e)
theorem patEq_in {K : PySem.W.Frag} {C p p' : Addr} {H : Hp} {T U : Pat} {Q : VK} (XX : InsX K C) (nf : PySem.W.notFirst K C (.ref C) = true) (h : PatAt C H p T) (h' : PatAt C H p' U) (g : T.Ok) (g' : U.Ok) (q : Q (.bl (decide (T = U))) H) : rEqO K C (spPatEq C) E0 (.ref p) (.ref p') H Q := by
  obtain ⟨dx, v1, v2, v3, hp, _⟩ := id h
  obtain ⟨dx', _, _, _, hp', _⟩ := id h'
  exact ⟨p, dx, _, .ref C, rfl, hp, XX.ty hp', nf, p, .ref p', T, rfl, h, g, .inl ⟨p', U, rfl, h', g', _, rfl, q⟩⟩
theorem lay_dPat {T : Pat} (g : T.Ok) : (dPat T).canLay0 = true := by
  simp only [dPat, dSyms, PyData.canLay0, PyData.canLayAll0, lay_prs g.rows, lay_keys g.grp, lay_pws g.pws, Bool.and_self]
theorem shaped_dPat {T : Pat} (g : T.Ok) : SeqAt.shaped (dPat T) = true := by
  have a := dep_prs T.rows
  have b := dep_keys T.grp
  have c := dep_pws T.pws
  refine Bool.and_eq_true_iff.mpr ⟨lay_dPat g, decide_eq_true ?_⟩
  simp only [dPat, dSyms, PyData.depth, PyData.depthAll]
  omega
theorem eqv_dPat (T U : Pat) : PyData.eqv (dPat T) (dPat U) = decide (T = U) := by
  simp only [dPat, PyData.eqv, PyData.eqvAll, eqv_prsL, eqv_syms, eqv_pwsL]
  by_cases e1 : T.rows = U.rows
  · by_cases e2 : T.grp = U.grp
    · by_cases e3 : T.pws = U.pws
      · have : T = U := by cases T; cases U; cases e1; cases e2; cases e3; rfl
        subst this; simp
      · have : T ≠ U := fun z => e3 (by rw [z])
        simp [e3, this]
    · have : T ≠ U := fun z => e2 (by rw [z])
      simp [e2, this]
  · have : T ≠ U := fun z => e1 (by rw [z])
    simp [e1, this]
def spLaw (K : PySem.W.Frag) : Sp := fun vs H Q _ => ∃ (a : Addr) (ns : List Int), vs = [V.ref a] ∧ SqL K H a (ns.map V.int) ∧ ns.length ≤ 63 ∧ ∀ H', Q (.bl true) H'
end Fm

namespace Fm
open PySem PySem.Spec PyProof.Rows L2
/-- what stands while what was handed in is changed -/
structure Lw (C b c p A X Y Z : Addr) (H4 : Hp) (T : Pat) (pw : List (Str × Int)) (n : Nat) (H' : Hp) : Prop where
  bag : Bag H' b c
  kp : Kp [b] H4 H'
  pat : PatAt C H' p T
  all : H' A = some (.lst [.ref X, .ref Y, .ref Z])
  rx : ∃ xs, RowX H' X xs ∧ xs.length ≤ n
  ry : ∃ ys, RowX H' Y ys ∧ ys.length ≤ n
  pz : H' Z = some (.dK (pwKv pw))
theorem Lw.keep0 {C b c p A X Y Z : Addr} {H4 H' H'' : Hp} {T : Pat} {pw : List (Str × Int)} {n : Nat} (h : Lw C b c p A X Y Z H4 T pw n H') (k : Kp [] H' H'') : Lw C b c p A X Y Z H4 T pw n H'' := by
  obtain ⟨xs, x1, x2⟩ := h.rx
  obtain ⟨ys, y1, y2⟩ := h.ry
  exact ⟨h.bag.keep0 k, h.kp.trans k.zero, h.pat.kp k (fun z => nomatch z), k.at_ _ _ h.all (fun z => nomatch z), ⟨xs, x1.kp k (fun z => nomatch z), x2⟩, ⟨ys, y1.kp k (fun z => nomatch z), y2⟩, k.at_ _ _ h.pz (fun z => nomatch z)⟩
theorem Lw.mono {C b c p A X Y Z : Addr} {H4 H' : Hp} {T : Pat} {pw : List (Str × Int)} {n m : Nat} (h : Lw C b c p A X Y Z H4 T pw n H') (k : n ≤ m) : Lw C b c p A X Y Z H4 T pw m H' :=
  ⟨h.bag, h.kp, h.pat, h.all, let ⟨xs, a, b⟩ := h.rx; ⟨xs, a, Nat.le_trans b k⟩, let ⟨xs, a, b⟩ := h.ry; ⟨xs, a, Nat.le_trans b k⟩, h.pz⟩
theorem Lw.put {C b c p A X Y Z q : Addr} {H4 H' : Hp} {T : Pat} {pw : List (Str × Int)} {n : Nat} {ys zs : List V} (h : Lw C b c p A X Y Z H4 T pw n H') (hq : H' q = some (.lst ys)) (hf : H4 q = none) (nb : q ≠ b) (nc : q ≠ c) (nA : q ≠ A) (hx : q = X → zs.length ≤ n) (hy : q = Y → zs.length ≤ n) : Lw C b c p A X Y Z H4 T pw n (upd H' q (.lst zs)) := by
  have k : Kp [q] H' (upd H' q (.lst zs)) := Kp.updL hq (by simp)
  have row : ∀ {r : Addr}, (q = r → zs.length ≤ n) → (∃ xs, RowX H' r xs ∧ xs.length ≤ n) → ∃ xs, RowX (upd H' q (.lst zs)) r xs ∧ xs.length ≤ n := fun {r} hr ⟨xs, h1, h2⟩ => by
    by_cases e : q = r
    · exact ⟨zs, .inl (by rw [e]; exact upd_same), hr e⟩
    · exact ⟨xs, h1.kp k (by simpa using Ne.symm e), h2⟩
  refine ⟨h.bag.keep k (by simpa using Ne.symm nb) (by simpa using Ne.symm nc), h.kp.late hf, h.pat.kp k ?_, k.at_ _ _ h.all (by simpa using Ne.symm nA), row hx h.rx, row hy h.ry, k.at_ _ _ h.pz ?_⟩
  · intro z
    have z : p = q := by simpa using z
    obtain ⟨_, _, _, _, hp, _⟩ := h.pat
    rw [z, hq] at hp; cases hp
  · intro z
    have z : Z = q := by simpa using z
    have := h.pz
    rw [z, hq] at this; cases this
section
variable {P : Program} {w : World} {K : PySem.W.Frag} {mg : Str → Option Value} {base : Heap}
theorem ok_law {f C fI fE : Addr} {fd fdI fdE : FuncData} (B : BiP mg) (hrepr : mg "repr" = none) (hsys : ∃ o, base.get? sysModules = some o) (F : Fun K "law" "law" s_law f fd) (U : PatCls K mg C) (XX : InsX K C) (MT : Mk K C fI) (GI : FnOk P w K mg base CX0 4 fI fdI ["self", "rows", "group", "powers"] (spPatI C)) (bI : Binds K fdI ["self", "rows", "group", "powers"] [])
    (GE : FnOk P w K mg base CX0 1 fE fdE ["self", "other"] (spPatEq C)) (bE : Binds K fdE ["self", "other"] []) (EC : EqC K C fE) (nf : PySem.W.notFirst K C (.ref C) = true)
    (G_bag : Has P w K mg base CX0 "_law_bag" ["_law_script"] 1 (spBag K)) (G_tables : Has P w K mg base CX0 "_law_tables" ["_law_bag_here"] 3 spTables) (G_pattern : Has P w K mg base CX0 "_law_pattern" ["_law_bag_here", "_law_tables_here", "_law_most"] 3 spPattern) (G_due : Has P w K mg base CX0 "_law_due" ["_law_rows", "_law_group", "_law_powers"] 2 spDue)
    (G_given : Has P w K mg base CX0 "_law_given" ["_law_bag_here", "_law_rows", "_law_group", "_law_powers"] 3 spGiven) (G_is : Has P w K mg base CX0 "_law_is" ["_law_pattern_here", "_law_due_here"] 5 (spIs C)) (G_turned : Has P w K mg base CX0 "_law_turned" ["_law_rows", "_law_group", "_law_powers", "_law_pool_here"] 2 spTurned)
    (G_pool : Has P w K mg base CX0 "_law_pool" ["_law_bag_here"] 2 spPool) (G_changed : Has P w K mg base CX0 "_law_changed" ["_law_bag_here", "_law_rows", "_law_group", "_law_powers"] 3 spChanged) (hrt : Room 7 callerA) : TopOk P w K mg base f fd ["_law_script"] (spLaw K) := by
  refine Fm.Fun.top (k := 6) F sc_law hrt (fun vs H Q E h => ?_) (fun cdv s0 H vs Q hr h => ?_)
  · obtain ⟨a, ns, rfl, _⟩ := h; rfl
  · obtain ⟨a, ns0, rfl, hS, l63, k⟩ := h
    have hu := hu_of hr
    refine ⟨_, (pss_cons (ps_set (i := 1) sc_law.nd rfl (by first | exact Or.inl rfl | exact Or.inr rfl) (pe_has G_bag (hr.mono (by omega)) (pa_cons (pv 0) pa_nil)))
  (pss_cons (ps_asg (pe_has G_pattern (hr.mono (by omega)) (pa_cons (pv 1) (pa_cons (pe_has G_tables (hr.mono (by omega)) (pa_cons (pv 1) pa_nil)) (pa_cons pe_int pa_nil)))) (pg_tup rfl (pgs_cons (pg_name (i := 2) sc_law.nd rfl (by first | exact Or.inl rfl | exact Or.inr rfl)) (pgs_cons (pg_name (i := 3) sc_law.nd rfl (by first | exact Or.inl rfl | exact Or.inr rfl)) (pgs_cons (pg_name (i := 4) sc_law.nd rfl (by first | exact Or.inl rfl | exact Or.inr rfl)) pgs_nil)))))
  (pss_cons (ps_set (i := 5) sc_law.nd rfl (by first | exact Or.inl rfl | exact Or.inr rfl) (pe_has G_due (hr.mono (by omega)) (pa_cons (pv 2) (pa_cons (pv 3) (pa_cons (pv 4) pa_nil)))))
  (pss_cons (ps_set (i := 6) sc_law.nd rfl (by first | exact Or.inl rfl | exact Or.inr rfl) (pe_has G_given (hr.mono (by omega)) (pa_cons (pv 1) (pa_cons (pv 2) (pa_cons (pv 3) (pa_cons (pv 4) pa_nil))))))
  (pss_cons (ps_set (i := 7) sc_law.nd rfl (by first | exact Or.inl rfl | exact Or.inr rfl) (pe_callB (cr_repr rfl hr.units hsys) (by rfl) hrepr (by decide +kernel) (pa_cons (pv 6) pa_nil)))
  (pss_cons (ps_set (i := 8) sc_law.nd rfl (by first | exact Or.inl rfl | exact Or.inr rfl) (pe_make (E := E0) MT GI (hr.mono (by omega)) rfl U.mgC bI .nil pass0 (pa_cons (pe_ix ix_list (pv 6) pe_int (fun _ _ => rfl)) (pa_cons (pe_ix ix_list (pv 6) pe_int (fun _ _ => rfl)) (pa_cons (pe_ix ix_list (pv 6) pe_int (fun _ _ => rfl)) pa_nil)))))
  (pss_cons (ps_if (PW.pt (pw_or (pt_cmpR op_ne (pe_callB (cr_repr rfl hr.units hsys) (by rfl) hrepr (by decide +kernel) (pa_cons (pv 6) pa_nil)) (pv 7) (nomark _)) (pw_or1 (pt_not (pt_val (pe_has G_is (hr.mono (by omega)) (pa_cons (pv 8) (pa_cons (pv 5) pa_nil))))))))
  (pss_one (ps_ret pe_bl))
  pss_nil)
  (C8.pss_cut (ps_for PassesOwn.never rfl (pi_or (pi_list (pe_ix ix_list (pv 6) pe_int (fun _ _ => rfl))) (pi_tup (pe_ix ix_list (pv 6) pe_int (fun _ _ => rfl)))) (pg_tup rfl (pgs_cons (pg_name (i := 9) sc_law.nd rfl (by first | exact Or.inl rfl | exact Or.inr rfl)) (pgs_cons (pg_name (i := 10) sc_law.nd rfl (by first | exact Or.inl rfl | exact Or.inr rfl)) pgs_nil)))
  (pss_one (ps_if (pt_val (pe_callB call_isi (by rfl) B.isinstance (by decide +kernel) (pa_cons (pv 10) (pa_cons (pe_bltn (v := .ty "list") (by rfl) B.list (by decide +kernel) rfl) pa_nil))))
  (pss_one (ps_asg pe_int (pg_sub (pv 10) pe_int set_list)))
  pss_nil)))
  (C8.pss_cut (ps_if (pt_val (pe_callB call_isi (by rfl) B.isinstance (by decide +kernel) (pa_cons (pe_ix ix_list (pv 6) pe_int (fun _ _ => rfl)) (pa_cons (pe_bltn (v := .ty "list") (by rfl) B.list (by decide +kernel) rfl) pa_nil))))
  (pss_one (ps_expr (pe_bm PySem.F.plainAttrs_list PySem.F.slot_list_append PySem.F.type_list_append mt_append (pe_ix ix_list (pv 6) pe_int (fun _ _ => rfl)) (pa_cons (pe_tup (pa_cons pe_str (pa_cons (pe_lst (pa_cons pe_str pa_nil)) pa_nil))) pa_nil))))
  pss_nil)
  (C8.pss_cut (ps_if (pt_val (pe_callB call_isi (by rfl) B.isinstance (by decide +kernel) (pa_cons (pe_ix ix_list (pv 6) pe_int (fun _ _ => rfl)) (pa_cons (pe_bltn (v := .ty "list") (by rfl) B.list (by decide +kernel) rfl) pa_nil))))
  (pss_one (ps_expr (pe_bm PySem.F.plainAttrs_list PySem.F.slot_list_append PySem.F.type_list_append mt_append (pe_ix ix_list (pv 6) pe_int (fun _ _ => rfl)) (pa_cons pe_str pa_nil))))
  pss_nil)
  (pss_cons (ps_expr (pe_bm0 PySem.F.plainAttrs_dict PySem.F.slot_dict_clear PySem.F.type_dict_clear mtd_clear (pe_ix ix_list (pv 6) pe_int (fun _ _ => rfl))))
  (pss_cons (ps_if (pt_not (pt_val (pe_has G_is (hr.mono (by omega)) (pa_cons (pv 8) (pa_cons (pv 5) pa_nil)))))
  (pss_one (ps_ret pe_bl))
  pss_nil)
  (pss_cons (ps_set (i := 11) sc_law.nd rfl (by first | exact Or.inl rfl | exact Or.inr rfl) (pe_has G_turned (hr.mono (by omega)) (pa_cons (pv 2) (pa_cons (pv 3) (pa_cons (pv 4) (pa_cons (pe_has G_pool (hr.mono (by omega)) (pa_cons (pv 1) pa_nil)) pa_nil))))))
  (pss_cons (ps_set (i := 12) sc_law.nd rfl (by first | exact Or.inl rfl | exact Or.inr rfl) (pe_make (E := E0) MT GI (hr.mono (by omega)) rfl U.mgC bI .nil pass0 (pa_cons (pe_ix (r := rIxT K) ix_tup (pv 11) pe_int (fun _ _ => rfl)) (pa_cons (pe_ix (r := rIxT K) ix_tup (pv 11) pe_int (fun _ _ => rfl)) (pa_cons (pe_ix (r := rIxT K) ix_tup (pv 11) pe_int (fun _ _ => rfl)) pa_nil)))))
  (pss_cons (ps_set (i := 13) sc_law.nd rfl (by first | exact Or.inl rfl | exact Or.inr rfl) (pe_has G_changed (hr.mono (by omega)) (pa_cons (pv 1) (pa_cons (pv 2) (pa_cons (pv 3) (pa_cons (pv 4) pa_nil))))))
  (pss_cons (ps_set (i := 14) sc_law.nd rfl (by first | exact Or.inl rfl | exact Or.inr rfl) (pe_make (E := E0) MT GI (hr.mono (by omega)) rfl U.mgC bI .nil pass0 (pa_cons (pe_ix (r := rIxT K) ix_tup (pv 13) pe_int (fun _ _ => rfl)) (pa_cons (pe_ix (r := rIxT K) ix_tup (pv 13) pe_int (fun _ _ => rfl)) (pa_cons (pe_ix (r := rIxT K) ix_tup (pv 13) pe_int (fun _ _ => rfl)) pa_nil)))))
  (pss_cons (ps_if (PW.pt (pw_or (pt_not (pt_val (pe_has G_is (hr.mono (by omega)) (pa_cons (pv 12) (pa_cons (pv 5) pa_nil))))) (pw_or1 (pt_not (pt_cmpR (op_eqO EC GE bE pass0 (hr.mono (by omega))) (pv 8) (pv 12) (nomark _))))))
  (pss_one (ps_ret pe_bl))
  pss_nil)
  (pss_cons (ps_set (i := 15) sc_law.nd rfl (by first | exact Or.inl rfl | exact Or.inr rfl) (pe_cmpR (op_eqD hr.units) (pe_has G_due (hr.mono (by omega)) (pa_cons (pe_ix (r := rIxT K) ix_tup (pv 13) pe_int (fun _ _ => rfl)) (pa_cons (pe_ix (r := rIxT K) ix_tup (pv 13) pe_int (fun _ _ => rfl)) (pa_cons (pe_ix (r := rIxT K) ix_tup (pv 13) pe_int (fun _ _ => rfl)) pa_nil)))) (pv 5) (nomark _)))
  (pss_cons (ps_if (pt_not (pt_val (pe_has G_is (hr.mono (by omega)) (pa_cons (pv 14) (pa_cons (pe_has G_due (hr.mono (by omega)) (pa_cons (pe_ix (r := rIxT K) ix_tup (pv 13) pe_int (fun _ _ => rfl)) (pa_cons (pe_ix (r := rIxT K) ix_tup (pv 13) pe_int (fun _ _ => rfl)) (pa_cons (pe_ix (r := rIxT K) ix_tup (pv 13) pe_int (fun _ _ => rfl)) pa_nil)))) pa_nil)))))
  (pss_one (ps_ret pe_bl))
  pss_nil)
  (pss_one (ps_ret (pe_and (pe_cmpR op_eq (pe_cmpR (op_eqO EC GE bE pass0 (hr.mono (by omega))) (pv 8) (pv 14) (nomark _)) (pv 15) (nomark _)) (pe_one (pe_cmpR op_eq (pe_cmpR (op_eqO EC GE bE pass0 (hr.mono (by omega))) (pv 14) (pv 12) (nomark _)) (pv 15) (nomark _))))))))))))))))))))))))), ?_⟩
    refine ⟨_, rfl, a, ns0, rfl, hS, fun b c H1 k1 hb hc BG1 => ?_⟩
    refine ⟨_, rfl, _, rfl, b, c, rfl, BG1, fun t xs tbs H2 BG2 k2 ht et it g => ?_⟩
    obtain ⟨tb, tc⟩ := BG1.new ht
    refine ⟨b, c, t, xs, tbs, 6, rfl, BG2, et, tb, it, g, by decide, fun q R G W ps gg pw H3 hq RA tx l6 BG3 k3 fR fG fW => ?_⟩
    refine ⟨q, _, rfl, SqT.of hq, rfl, _, _, rfl, _, _, rfl, _, _, rfl, rfl, ?_⟩
    refine ⟨_, rfl, _, rfl, _, rfl, R, G, W, ps, gg, pw, rfl, RA.mono (fun _ h => nomatch h), fun dv H4 k4 iv => ?_⟩
    have BG4 := BG3.keep0 k4
    have RA4 := RA.kp k4.zero
    refine ⟨_, rfl, _, rfl, _, rfl, _, rfl, b, c, R, G, W, ps, gg, pw, rfl, BG4, RA4, fun A X Y Z H5 BG5 k5 GA XY AX AY => ?_⟩
    obtain ⟨d, dA, sh, len, dep⟩ := given_dt GA RA.ok tx RA.okg RA.okw
    refine ⟨_, rfl, _, _, _, A, d, rfl, dA, sh, len, dep, ?_⟩
    obtain ⟨xs5, hX5, gr5⟩ := GA.rows
    refine ⟨_, rfl, A, _, 0, .ref X, rfl, rfl, SqL.of GA.all, rfl, _, rfl, A, _, 1, .ref Y, rfl, rfl, SqL.of GA.all, rfl, _, rfl, A, _, 2, .ref Z, rfl, rfl, SqL.of GA.all, rfl, fun p dx np ndx ne => ?_⟩
    refine pat_make hX5 gr5 GA.grp GA.pws RA.ok RA.okg RA.okw np ndx ne fun H6 k6 PA => ?_
    refine ⟨_, rfl, _, _, _, A, d, rfl, dA.keep k6, sh, len, dep, _, rfl, rfl, _, rfl, iteNS rfl ?_⟩
    have iv6 := Im.kp k6 (Im.kp k5 iv)
    refine ⟨_, rfl, _, rfl, p, dv, _, rfl, PA, iv6, fun H7 k7 => ⟨_, rfl, iteF ?_⟩⟩
    have F4 : ∀ {x : Addr}, H5 x = none → H4 x = none := fun {x} h => k5.freeB BG5 h
    have nb4 : ∀ {x : Addr}, H4 x = none → x ≠ b := fun {x} h z => by
      obtain ⟨o, ho⟩ := BG4.someB
      rw [← z, h] at ho; cases ho
    have nc4 : ∀ {x : Addr}, H4 x = none → x ≠ c := fun {x} h z => by
      obtain ⟨o, ho⟩ := BG4.someC
      rw [← z, h] at ho; cases ho
    have k57 := k6.trans k7
    have k47 : Kp [b] H4 H7 := k5.trans k57.zero
    have hX7 := hX5.kp k57 (fun z => nomatch z)
    have gr7 := gr5.kp k57 (fun x hx => nomatch hx)
    have L7 : Lw C b c p A X Y Z H4 (canP ps gg pw) pw 10 H7 := ⟨(BG5.keep0 k57), k47, PA.kp k7 (fun z => nomatch z), k57.at_ _ _ GA.all (fun z => nomatch z), ⟨xs5, hX7, by rw [gr5.len]; omega⟩, ⟨_, GA.grp.kp k57 (fun z => nomatch z), by rw [List.length_map]; have := RA.okg.1; omega⟩, k57.at_ _ _ GA.pws (fun z => nomatch z)⟩
    have iv7 : Im H4 4 dv (dPat (canP ps gg pw)) := iv
    have LS7 : ∀ u ∈ xs5, ∃ a1 nm b1, u = V.ref a1 ∧ H7 a1 = some (.tup [.str nm, .ref b1]) ∧ H4 b1 = none ∧ b1 ≠ X ∧ b1 ≠ A ∧ ((∃ ys, H7 b1 = some (.lst ys) ∧ 1 ≤ ys.length ∧ ys.length ≤ 10) ∨ ∃ ys, H7 b1 = some (.tup ys)) := fun u hu => by
      obtain ⟨i, hi, e⟩ := List.getElem_of_mem hu
      have hu1 : xs5[i]? = some u := by rw [← e]; exact List.getElem?_eq_getElem hi
      obtain ⟨a1, b1, r, rfl, er, h1, h2, h3⟩ := gr7.get hu1
      have okr := RA.ok.2 r (List.mem_of_getElem? er)
      have noref : ∀ {zs : List V} {x : Addr}, V.ref x ∈ zs → zs ≠ r.2.map kV := fun {zs x} hx e => by
        rw [e] at hx
        obtain ⟨y, _, e⟩ := List.mem_map.mp hx
        cases y <;> cases e
      refine ⟨a1, r.1, b1, rfl, h1, h3, fun z => ?_, fun z => ?_, ?_⟩
      · subst z
        rcases hX7 with e1 | e1 <;> rcases h2 with e2 | e2 <;> rw [e1] at e2 <;> cases e2
        · exact noref hu rfl
        · exact noref hu rfl
      · subst z
        have e1 := L7.all
        rcases h2 with e2 | e2
        · rw [e1] at e2
          injection e2 with e2
          injection e2 with e2
          exact noref (zs := [.ref X, .ref Y, .ref Z]) (x := X) (by simp) e2
        · rw [e1] at e2
          injection e2 with e2
          cases e2
      · rcases h2 with e | e
        · exact .inl ⟨_, e, by rw [List.length_map]; exact okr.2.1, by rw [List.length_map]; have := okr.2.2.1; omega⟩
        · exact .inr ⟨_, e⟩
    refine ⟨fun σ H' => (∃ o9 o10, σ = [some (.ref a), some (.ref b), some (.ref R), some (.ref G), some (.ref W), some dv, some (.ref A), some (.str d.shown), some (.ref p), o9, o10, none, none, none, none, none]) ∧ Lw C b c p A X Y Z H4 (canP ps gg pw) pw 10 H', ?_, ?_⟩
    · rcases hX7 with r | r
      all_goals
        first
          | refine .inl ⟨_, rfl, A, _, 0, .ref X, rfl, rfl, SqL.of L7.all, rfl, X, rfl, ⟨_, .inl (.inl r)⟩, for_it (walk_list (xs := xs5)) (fun i σ H' => (∃ o9 o10, σ = [some (.ref a), some (.ref b), some (.ref R), some (.ref G), some (.ref W), some dv, some (.ref A), some (.str d.shown), some (.ref p), o9, o10, none, none, none, none, none]) ∧ Lw C b c p A X Y Z H4 (canP ps gg pw) pw 10 H' ∧ H' X = some (.lst xs5) ∧ ∀ u ∈ xs5, ∃ a1 nm b1, u = V.ref a1 ∧ H' a1 = some (.tup [.str nm, .ref b1]) ∧ H4 b1 = none ∧ b1 ≠ X ∧ b1 ≠ A ∧ ((∃ ys, H' b1 = some (.lst ys) ∧ 1 ≤ ys.length ∧ ys.length ≤ 10) ∨ ∃ ys, H' b1 = some (.tup ys))) ⟨⟨_, _, rfl⟩, L7, r, LS7⟩ (fun i σ H' _ h => ?_) ?_ ?_⟩
          | refine .inr ⟨_, rfl, A, _, 0, .ref X, rfl, rfl, SqL.of L7.all, rfl, X, rfl, ⟨_, .inl (.inl r)⟩, for_it (walk_tup (xs := xs5)) (fun i σ H' => (∃ o9 o10, σ = [some (.ref a), some (.ref b), some (.ref R), some (.ref G), some (.ref W), some dv, some (.ref A), some (.str d.shown), some (.ref p), o9, o10, none, none, none, none, none]) ∧ Lw C b c p A X Y Z H4 (canP ps gg pw) pw 10 H' ∧ H' X = some (.tup xs5) ∧ ∀ u ∈ xs5, ∃ a1 nm b1, u = V.ref a1 ∧ H' a1 = some (.tup [.str nm, .ref b1]) ∧ H4 b1 = none ∧ b1 ≠ X ∧ b1 ≠ A ∧ ((∃ ys, H' b1 = some (.lst ys) ∧ 1 ≤ ys.length ∧ ys.length ≤ 10) ∨ ∃ ys, H' b1 = some (.tup ys))) ⟨⟨_, _, rfl⟩, L7, r, LS7⟩ (fun i σ H' _ h => ?_) ?_ ?_⟩
        · first
            | exact SqL.of h.2.2.1
            | exact .inl (.inl h.2.2.1)
        · rintro i u σ H8 H9 hi ⟨⟨o9, o10, rfl⟩, L8, x8, LS8⟩ ⟨rfl, hu1⟩
          obtain ⟨a1, nm, b1, rfl, ha1, fb1, b1X, b1A, hb1⟩ := LS8 u (List.mem_of_getElem? hu1)
          refine ⟨a1, _, rfl, SqT.of ha1, rfl, _, _, rfl, _, _, rfl, rfl, ?_⟩
          rcases hb1 with ⟨ys, hys, l1, l10⟩ | ⟨ys, hys⟩
          · refine ⟨_, rfl, _, _, _, _, _, rfl, .ty _, .base (.lst hys), kit_ty (kb_list (.list [])), _, rfl, iteT ?_⟩
            refine ⟨_, rfl, b1, ys, 0, 0, rfl, rfl, hys, (show ixN ys.length ((0 : Nat) : Int) = some 0 from ixN_nat l1), ?_⟩
            have kb := Kp.updL (ms := [b1]) (o' := .lst (ys.set 0 (.int 7))) hys (by simp)
            refine ⟨⟨_, _, rfl⟩, L8.put hys fb1 (nb4 fb1) (nc4 fb1) b1A (fun z => absurd z b1X) (fun _ => by rw [List.length_set]; omega), by rw [upd_ne (Ne.symm b1X)]; exact x8, fun u hu => ?_⟩
            obtain ⟨a2, nm2, b2, rfl, ha2, fb2, b2X, b2A, hb2⟩ := LS8 u hu
            refine ⟨a2, nm2, b2, rfl, kb.tp _ _ ha2, fb2, b2X, b2A, ?_⟩
            rcases hb2 with ⟨zs, hzs, m1, m10⟩ | ⟨zs, hzs⟩
            · by_cases e : b2 = b1
              · exact .inl ⟨ys.set 0 (.int 7), by rw [e]; exact upd_same, by rw [List.length_set]; exact l1, by rw [List.length_set]; exact l10⟩
              · exact .inl ⟨zs, by rw [upd_ne e]; exact hzs, m1, m10⟩
            · exact .inr ⟨zs, kb.tp _ _ hzs⟩
          · refine ⟨_, rfl, _, _, _, _, _, rfl, .ty _, .base (.tup hys), kit_ty (kb_list (.tuple [])), _, rfl, iteF ?_⟩
            exact ⟨⟨_, _, rfl⟩, L8, x8, LS8⟩
        · rintro σ H8 ⟨⟨o9, o10, rfl⟩, L8, x8, LS8⟩
          exact ⟨⟨_, _, rfl⟩, L8⟩
    rintro σ H8 ⟨⟨o9, o10, rfl⟩, L8⟩
    have fX := GA.fX
    have fY := GA.fY
    have fX4 : H4 X = none := GA.fX
    have fY4 : H4 Y = none := GA.fY
    refine ⟨fun σ H' => σ = [some (.ref a), some (.ref b), some (.ref R), some (.ref G), some (.ref W), some dv, some (.ref A), some (.str d.shown), some (.ref p), o9, o10, none, none, none, none, none] ∧ Lw C b c p A X Y Z H4 (canP ps gg pw) pw 11 H', ?_, ?_⟩
    · obtain ⟨xs8, hx8, lx8⟩ := L8.rx
      rcases hx8 with h | h
      · refine ⟨_, rfl, A, _, 0, .ref X, rfl, rfl, SqL.of L8.all, rfl, _, _, _, _, _, rfl, .ty _, .base (.lst h), kit_ty (kb_list (.list [])), _, rfl, iteT ?_⟩
        refine ⟨_, rfl, A, _, 0, .ref X, rfl, rfl, SqL.of L8.all, rfl, .inl ⟨rfl, _, SqL.of h⟩, by show 1 ≤ sizeLine; decide, fun l hl => ⟨by show 2 ≤ sizeLine; decide, fun t ht => ?_⟩⟩
        have kk := (Kp.new (ms := []) (o := .lst [.str "a"]) hl).snoc (o := .tup [.str "t", .ref l]) ht
        have h' := kk.at_ _ _ h (fun z => nomatch z)
        exact ⟨X, xs8, _, rfl, rfl, h', small1000 (by omega), rfl, ((L8.keep0 kk).mono (m := 11) (by decide)).put h' fX4 (nb4 fX4) (nc4 fX4) (Ne.symm AX) (fun _ => by rw [List.length_append, List.length_singleton]; omega) (fun z => absurd z XY)⟩
      · exact ⟨_, rfl, A, _, 0, .ref X, rfl, rfl, SqL.of L8.all, rfl, _, _, _, _, _, rfl, .ty _, .base (.tup h), kit_ty (kb_list (.tuple [])), _, rfl, iteF ⟨rfl, L8.mono (by decide)⟩⟩
    clear L8
    rintro σ H8 ⟨rfl, L8⟩
    refine ⟨fun σ H' => σ = [some (.ref a), some (.ref b), some (.ref R), some (.ref G), some (.ref W), some dv, some (.ref A), some (.str d.shown), some (.ref p), o9, o10, none, none, none, none, none] ∧ Lw C b c p A X Y Z H4 (canP ps gg pw) pw 12 H', ?_, ?_⟩
    · obtain ⟨ys8, hy8, ly8⟩ := L8.ry
      rcases hy8 with h | h
      · refine ⟨_, rfl, A, _, 1, .ref Y, rfl, rfl, SqL.of L8.all, rfl, _, _, _, _, _, rfl, .ty _, .base (.lst h), kit_ty (kb_list (.list [])), _, rfl, iteT ?_⟩
        refine ⟨_, rfl, A, _, 1, .ref Y, rfl, rfl, SqL.of L8.all, rfl, .inl ⟨rfl, _, SqL.of h⟩, ?_⟩
        exact ⟨Y, ys8, _, rfl, rfl, h, small1000 (by omega), rfl, (L8.mono (m := 12) (by decide)).put h fY4 (nb4 fY4) (nc4 fY4) (Ne.symm AY) (fun z => absurd z.symm XY) (fun _ => by rw [List.length_append, List.length_singleton]; omega)⟩
      · exact ⟨_, rfl, A, _, 1, .ref Y, rfl, rfl, SqL.of L8.all, rfl, _, _, _, _, _, rfl, .ty _, .base (.tup h), kit_ty (kb_list (.tuple [])), _, rfl, iteF ⟨rfl, L8.mono (by decide)⟩⟩
    clear L8
    rintro σ H8 ⟨rfl, L8⟩
    refine ⟨_, rfl, A, _, 2, .ref Z, rfl, rfl, SqL.of L8.all, rfl, ?_⟩
    have fZ4 : H4 Z = none := GA.fW
    refine ⟨.inr (.inr (.inl ⟨rfl, .inl ⟨_, L8.pz⟩⟩)), Z, _, rfl, rfl, L8.pz, ?_⟩
    have kZ : Kp [Z] H8 (upd H8 Z (.dK [])) := Kp.set L8.pz (fun _ z => by cases z) (by simp)
    generalize h9 : upd H8 Z (.dK []) = H9 at kZ
    have k49 : Kp [b] H4 H9 := h9 ▸ L8.kp.late fZ4
    have BG9 : Bag H9 b c := L8.bag.keep kZ (by simpa using Ne.symm (nb4 fZ4)) (by simpa using Ne.symm (nc4 fZ4))
    have PA9 : PatAt C H9 p (canP ps gg pw) := L8.pat.kp kZ (fun z => by
      have z : p = Z := by simpa using z
      obtain ⟨_, _, _, _, hp, _⟩ := L8.pat
      have := L8.pz
      rw [← z, hp] at this; cases this)
    have RA9 := RA4.kp k49
    refine ⟨_, rfl, _, rfl, p, dv, _, rfl, PA9, Im.kp k49 iv, fun H10 k10 => ⟨_, rfl, iteF ?_⟩⟩
    have BG10 := BG9.keep0 k10
    have RA10 := RA9.kp k10.zero
    have PA10 := PA9.kp k10 (fun z => nomatch z)
    have iv10 := Im.kp k10 (Im.kp k49 iv)
    have pcb : ∀ {H' : Hp} {p : Addr} {T : Pat}, Bag H' b c → PatAt C H' p T → p ∉ [b] := fun {H' p T} hB ⟨_, _, _, _, hp, _⟩ z => by
      have z : p = b := by simpa using z
      obtain ⟨i, z', m, n, k, h, _⟩ := hB.bg
      rw [← z, hp] at h; cases h
    -- the twin
    refine ⟨_, rfl, _, rfl, _, rfl, _, rfl, b, c, rfl, BG10, fun Lp us H11 hus BG11 k11 hLf hL => ?_⟩
    have RA11 := RA10.kp k11
    refine ⟨R, G, W, Lp, ps, gg, pw, us, rfl, RA11.mono (fun _ h => nomatch h), hL, hus, fun q2 R2 G2 W2 H12 k12 hq2 RA2 => ?_⟩
    obtain ⟨⟨xs2, hR2, rx2⟩, _, hG2, _, hW2, _, okp2, okg2, okw2⟩ := RA2
    refine ⟨_, rfl, q2, _, 0, .ref R2, rfl, rfl, SqT.of hq2, rfl, _, rfl, q2, _, 1, .ref G2, rfl, rfl, SqT.of hq2, rfl, _, rfl, q2, _, 2, .ref W2, rfl, rfl, SqT.of hq2, rfl, fun p2 dx2 np2 ndx2 ne2 => ?_⟩
    refine pat_make (.inl hR2) rx2.g (.inl hG2) hW2 okp2 okg2 okw2 np2 ndx2 ne2 fun H13 k13 PA2 => ?_
    rw [canP_tr (polF_inj hus) RA.ok RA.okg.2.2 RA.okw] at PA2
    have BG13 := (BG11.keep0 k12).keep0 k13
    have k1013 : Kp [b] H10 H13 := k11.trans (k12.trans k13).zero
    have RA13 := RA10.kp k1013
    have PA13 := PA10.kp k1013 (pcb BG10 PA10)
    -- the third
    refine ⟨_, rfl, _, rfl, _, rfl, _, rfl, b, c, R, G, W, ps, gg, pw, rfl, BG13, RA13, fun q3 R3 G3 W3 ps3 g3 pw3 H14 BG14 k14 hq3 RA3 => ?_⟩
    obtain ⟨⟨xs3, hR3, rx3⟩, nR3, hG3, nG3, hW3, nW3, okp3, okg3, okw3⟩ := id RA3
    refine ⟨_, rfl, q3, _, 0, .ref R3, rfl, rfl, SqT.of hq3, rfl, _, rfl, q3, _, 1, .ref G3, rfl, rfl, SqT.of hq3, rfl, _, rfl, q3, _, 2, .ref W3, rfl, rfl, SqT.of hq3, rfl, fun p3 dx3 np3 ndx3 ne3 => ?_⟩
    refine pat_make (.inl hR3) rx3.g (.inl hG3) hW3 okp3 okg3 okw3 np3 ndx3 ne3 fun H15 k15 PA3 => ?_
    have k1315 : Kp [b] H13 H15 := k14.trans k15.zero
    have PA15 := PA13.kp k1315 (pcb BG13 PA13)
    have PT15 := PA2.kp k1315 (pcb BG13 PA2)
    have iv15 := Im.kp k1315 (Im.kp k1013 iv10)
    have RA15 := RA3.kp k15.zero
    have hq15 := k15.tp _ _ hq3
    have okT := canP_ok RA.ok RA.okg.2.2 RA.okw
    have okV := canP_ok okp3 okg3.2.2 okw3
    refine ⟨_, rfl, _, rfl, p2, dv, _, rfl, PT15, iv15, fun H16 k16 => ⟨_, rfl, iteF ?_⟩⟩
    refine ⟨_, rfl, _, rfl, patEq_in XX nf (PA15.kp k16 (fun z => nomatch z)) (PT15.kp k16 (fun z => nomatch z)) okT okT ⟨_, rfl, ?_⟩⟩
    rw [decide_eq_true rfl]
    refine iteF ?_
    have hq16 := k16.tp _ _ hq15
    have RA16 := RA15.kp k16.zero
    refine ⟨_, rfl, q3, _, 0, .ref R3, rfl, rfl, SqT.of hq16, rfl, _, rfl, q3, _, 1, .ref G3, rfl, rfl, SqT.of hq16, rfl, _, rfl, q3, _, 2, .ref W3, rfl, rfl, SqT.of hq16, rfl, R3, G3, W3, ps3, g3, pw3, rfl, RA16.mono (fun _ h => nomatch h), fun dv2 H17 k17 iv2 => ?_⟩
    have iv17 := Im.kp k17 (Im.kp k16 iv15)
    refine ⟨_, rfl, _, _, iv2.dp (lay_dPat okV), iv17.dp (lay_dPat okT), shaped_dPat okV, shaped_dPat okT, ?_⟩
    rw [eqv_dPat]
    have hq17 := k17.tp _ _ hq16
    have RA17 := RA16.kp k17.zero
    refine ⟨_, rfl, _, rfl, q3, _, 0, .ref R3, rfl, rfl, SqT.of hq17, rfl, _, rfl, q3, _, 1, .ref G3, rfl, rfl, SqT.of hq17, rfl, _, rfl, q3, _, 2, .ref W3, rfl, rfl, SqT.of hq17, rfl, R3, G3, W3, ps3, g3, pw3, rfl, RA17.mono (fun _ h => nomatch h), fun dv3 H18 k18 iv3 => ?_⟩
    have k1518 := (k16.trans k17).trans k18
    refine ⟨p3, dv3, _, rfl, PA3.kp k1518 (fun z => nomatch z), iv3, fun H19 k19 => ⟨_, rfl, iteF ?_⟩⟩
    have k1519 := k1518.trans k19
    have PA19 := PA15.kp k1519 (fun z => nomatch z)
    have PT19 := PT15.kp k1519 (fun z => nomatch z)
    have PV19 := PA3.kp k1519 (fun z => nomatch z)
    have e1 : decide (canP ps gg pw = canP ps3 g3 pw3) = decide (canP ps3 g3 pw3 = canP ps gg pw) := decide_eq_decide.mpr ⟨Eq.symm, Eq.symm⟩
    refine ⟨_, rfl, _, rfl, patEq_in XX nf PA19 PV19 okT okV ?_⟩
    rw [e1]
    generalize hal : decide (canP ps3 g3 pw3 = canP ps gg pw) = al
    refine ⟨_, rfl, rfl, _, rfl, ?_⟩
    rw [decide_eq_true rfl]
    refine iteT ?_
    refine ⟨_, rfl, _, rfl, patEq_in XX nf PV19 PT19 okV okT ?_⟩
    rw [hal]
    refine ⟨_, rfl, rfl, ?_⟩
    rw [decide_eq_true rfl]
    exact k _
end
end Fm

namespace Fm
open PySem PySem.Spec PyProof.Rows L2

theorem all_mk {l : PySem.W.OpenLaw} {w : World} {K : PySem.W.Frag} {h : Heap} {mg : Str → Option Value} {fa : Addr} (X : K.In h) (G : h.Ns mainGlobals mg) (hfa : mg "law" = some (.ref fa))
    {tk_LETTERS_tables : Tok}
    {tk_LETTERS_patterns : Tok}
    {tk_MOST_VALUE : Tok}
    {tk_MOST_ROWS : Tok}
    {f_is_row : Addr} {od_is_row an_is_row : Option Addr} {sl_is_row : Array (Option Value)} {oc_is_row kV_is_row dc_is_row pm_is_row cd_is_row ct_is_row : Value}
    {f_is_integer : Addr} {od_is_integer an_is_integer : Option Addr} {sl_is_integer : Array (Option Value)} {oc_is_integer kV_is_integer dc_is_integer pm_is_integer cd_is_integer ct_is_integer : Value}
    {f_is_value : Addr} {od_is_value an_is_value : Option Addr} {sl_is_value : Array (Option Value)} {oc_is_value kV_is_value dc_is_value pm_is_value cd_is_value ct_is_value : Value}
    {f_is_name : Addr} {od_is_name an_is_name : Option Addr} {sl_is_name : Array (Option Value)} {oc_is_name kV_is_name dc_is_name pm_is_name cd_is_name ct_is_name : Value}
    {f_checked_rows : Addr} {od_checked_rows an_checked_rows : Option Addr} {sl_checked_rows : Array (Option Value)} {oc_checked_rows kV_checked_rows dc_checked_rows pm_checked_rows cd_checked_rows ct_checked_rows : Value}
    {f_names_in_order : Addr} {od_names_in_order an_names_in_order : Option Addr} {sl_names_in_order : Array (Option Value)} {oc_names_in_order kV_names_in_order dc_names_in_order pm_names_in_order cd_names_in_order ct_names_in_order : Value}
    {f_renamed : Addr} {od_renamed an_renamed : Option Addr} {sl_renamed : Array (Option Value)} {oc_renamed kV_renamed dc_renamed pm_renamed cd_renamed ct_renamed : Value}
    {f_renamed_rows : Addr} {od_renamed_rows an_renamed_rows : Option Addr} {sl_renamed_rows : Array (Option Value)} {oc_renamed_rows kV_renamed_rows dc_renamed_rows pm_renamed_rows cd_renamed_rows ct_renamed_rows : Value}
    {f_is_group : Addr} {od_is_group an_is_group : Option Addr} {sl_is_group : Array (Option Value)} {oc_is_group kV_is_group dc_is_group pm_is_group cd_is_group ct_is_group : Value}
    {f_is_powers : Addr} {od_is_powers an_is_powers : Option Addr} {sl_is_powers : Array (Option Value)} {oc_is_powers kV_is_powers dc_is_powers pm_is_powers cd_is_powers ct_is_powers : Value}
    {f_law_bag : Addr} {od_law_bag an_law_bag : Option Addr} {sl_law_bag : Array (Option Value)} {oc_law_bag kV_law_bag dc_law_bag pm_law_bag cd_law_bag ct_law_bag : Value}
    {f_law_pick : Addr} {od_law_pick an_law_pick : Option Addr} {sl_law_pick : Array (Option Value)} {oc_law_pick kV_law_pick dc_law_pick pm_law_pick cd_law_pick ct_law_pick : Value}
    {f_law_name : Addr} {od_law_name an_law_name : Option Addr} {sl_law_name : Array (Option Value)} {oc_law_name kV_law_name dc_law_name pm_law_name cd_law_name ct_law_name : Value}
    {f_law_value : Addr} {od_law_value an_law_value : Option Addr} {sl_law_value : Array (Option Value)} {oc_law_value kV_law_value dc_law_value pm_law_value cd_law_value ct_law_value : Value}
    {f_law_tables : Addr} {od_law_tables an_law_tables : Option Addr} {sl_law_tables : Array (Option Value)} {oc_law_tables kV_law_tables dc_law_tables pm_law_tables cd_law_tables ct_law_tables : Value}
    {f_law_pool : Addr} {od_law_pool an_law_pool : Option Addr} {sl_law_pool : Array (Option Value)} {oc_law_pool kV_law_pool dc_law_pool pm_law_pool cd_law_pool ct_law_pool : Value}
    {f_law_pattern : Addr} {od_law_pattern an_law_pattern : Option Addr} {sl_law_pattern : Array (Option Value)} {oc_law_pattern kV_law_pattern dc_law_pattern pm_law_pattern cd_law_pattern ct_law_pattern : Value}
    {f_law_due : Addr} {od_law_due an_law_due : Option Addr} {sl_law_due : Array (Option Value)} {oc_law_due kV_law_due dc_law_due pm_law_due cd_law_due ct_law_due : Value}
    {f_law_same : Addr} {od_law_same an_law_same : Option Addr} {sl_law_same : Array (Option Value)} {oc_law_same kV_law_same dc_law_same pm_law_same cd_law_same ct_law_same : Value}
    {f_law_turned : Addr} {od_law_turned an_law_turned : Option Addr} {sl_law_turned : Array (Option Value)} {oc_law_turned kV_law_turned dc_law_turned pm_law_turned cd_law_turned ct_law_turned : Value}
    {f_law_changed : Addr} {od_law_changed an_law_changed : Option Addr} {sl_law_changed : Array (Option Value)} {oc_law_changed kV_law_changed dc_law_changed pm_law_changed cd_law_changed ct_law_changed : Value}
    {f_law_formed : Addr} {od_law_formed an_law_formed : Option Addr} {sl_law_formed : Array (Option Value)} {oc_law_formed kV_law_formed dc_law_formed pm_law_formed cd_law_formed ct_law_formed : Value}
    {f_law_given : Addr} {od_law_given an_law_given : Option Addr} {sl_law_given : Array (Option Value)} {oc_law_given kV_law_given dc_law_given pm_law_given cd_law_given ct_law_given : Value}
    {f_law_is : Addr} {od_law_is an_law_is : Option Addr} {sl_law_is : Array (Option Value)} {oc_law_is kV_law_is dc_law_is pm_law_is cd_law_is ct_law_is : Value}
    {C_Pattern : Addr}
    {f_Pattern_init : Addr} {od_Pattern_init an_Pattern_init : Option Addr} {sl_Pattern_init : Array (Option Value)} {oc_Pattern_init kV_Pattern_init dc_Pattern_init pm_Pattern_init cd_Pattern_init ct_Pattern_init : Value}
    {f_Pattern_eq : Addr} {od_Pattern_eq an_Pattern_eq : Option Addr} {sl_Pattern_eq : Array (Option Value)} {oc_Pattern_eq kV_Pattern_eq dc_Pattern_eq pm_Pattern_eq cd_Pattern_eq ct_Pattern_eq : Value}
    {f_law : Addr} {od_law an_law : Option Addr} {sl_law : Array (Option Value)} {oc_law kV_law dc_law pm_law cd_law ct_law : Value}
    (z_len : PySem.W.nsIn K mainGlobals "len" = some none)
    (z_list : PySem.W.nsIn K mainGlobals "list" = some none)
    (z_tuple : PySem.W.nsIn K mainGlobals "tuple" = some none)
    (z_isinstance : PySem.W.nsIn K mainGlobals "isinstance" = some none)
    (z_int : PySem.W.nsIn K mainGlobals "int" = some none)
    (z_range : PySem.W.nsIn K mainGlobals "range" = some none)
    (z_max : PySem.W.nsIn K mainGlobals "max" = some none)
    (z_all : PySem.W.nsIn K mainGlobals "all" = some none)
    (z_bool : PySem.W.nsIn K mainGlobals "bool" = some none)
    (z_dict : PySem.W.nsIn K mainGlobals "dict" = some none)
    (z_str : PySem.W.nsIn K mainGlobals "str" = some none)
    (z_enumerate : PySem.W.nsIn K mainGlobals "enumerate" = some none)
    (z_sorted : PySem.W.nsIn K mainGlobals "sorted" = some none)
    (z_repr : PySem.W.nsIn K mainGlobals "repr" = some none)
    (n_LETTERS_tables : PySem.W.nsIn K mainGlobals "LETTERS_tables" = some (some (.str abc tk_LETTERS_tables)))
    (n_LETTERS_patterns : PySem.W.nsIn K mainGlobals "LETTERS_patterns" = some (some (.str abc tk_LETTERS_patterns)))
    (n_MOST_VALUE : PySem.W.nsIn K mainGlobals "MOST_VALUE" = some (some (.int 1000000000 tk_MOST_VALUE)))
    (n_MOST_ROWS : PySem.W.nsIn K mainGlobals "MOST_ROWS" = some (some (.int 6 tk_MOST_ROWS)))
    (a_is_row : PySem.W.nsIn K mainGlobals "is_row" = some (some (.ref f_is_row)))
    (l_is_row : K.lookup f_is_row = some ⟨oc_is_row, od_is_row, .func (PySem.W.fnOf "is_row" "is_row" (defArgs s_is_row) (defBody s_is_row) (defScope s_is_row) .none kV_is_row dc_is_row pm_is_row an_is_row cd_is_row ct_is_row), sl_is_row⟩)
    (c_is_row : PySem.W.codeIn K cd_is_row "is_row" = true)
    (k_is_row : PySem.W.keepIn K (.ref f_is_row) = true)
    (a_is_integer : PySem.W.nsIn K mainGlobals "is_integer" = some (some (.ref f_is_integer)))
    (l_is_integer : K.lookup f_is_integer = some ⟨oc_is_integer, od_is_integer, .func (PySem.W.fnOf "is_integer" "is_integer" (defArgs s_is_integer) (defBody s_is_integer) (defScope s_is_integer) .none kV_is_integer dc_is_integer pm_is_integer an_is_integer cd_is_integer ct_is_integer), sl_is_integer⟩)
    (c_is_integer : PySem.W.codeIn K cd_is_integer "is_integer" = true)
    (k_is_integer : PySem.W.keepIn K (.ref f_is_integer) = true)
    (a_is_value : PySem.W.nsIn K mainGlobals "is_value" = some (some (.ref f_is_value)))
    (l_is_value : K.lookup f_is_value = some ⟨oc_is_value, od_is_value, .func (PySem.W.fnOf "is_value" "is_value" (defArgs s_is_value) (defBody s_is_value) (defScope s_is_value) .none kV_is_value dc_is_value pm_is_value an_is_value cd_is_value ct_is_value), sl_is_value⟩)
    (c_is_value : PySem.W.codeIn K cd_is_value "is_value" = true)
    (k_is_value : PySem.W.keepIn K (.ref f_is_value) = true)
    (a_is_name : PySem.W.nsIn K mainGlobals "is_name" = some (some (.ref f_is_name)))
    (l_is_name : K.lookup f_is_name = some ⟨oc_is_name, od_is_name, .func (PySem.W.fnOf "is_name" "is_name" (defArgs s_is_name) (defBody s_is_name) (defScope s_is_name) .none kV_is_name dc_is_name pm_is_name an_is_name cd_is_name ct_is_name), sl_is_name⟩)
    (c_is_name : PySem.W.codeIn K cd_is_name "is_name" = true)
    (k_is_name : PySem.W.keepIn K (.ref f_is_name) = true)
    (a_checked_rows : PySem.W.nsIn K mainGlobals "checked_rows" = some (some (.ref f_checked_rows)))
    (l_checked_rows : K.lookup f_checked_rows = some ⟨oc_checked_rows, od_checked_rows, .func (PySem.W.fnOf "checked_rows" "checked_rows" (defArgs s_checked_rows) (defBody s_checked_rows) (defScope s_checked_rows) .none kV_checked_rows dc_checked_rows pm_checked_rows an_checked_rows cd_checked_rows ct_checked_rows), sl_checked_rows⟩)
    (c_checked_rows : PySem.W.codeIn K cd_checked_rows "checked_rows" = true)
    (k_checked_rows : PySem.W.keepIn K (.ref f_checked_rows) = true)
    (a_names_in_order : PySem.W.nsIn K mainGlobals "names_in_order" = some (some (.ref f_names_in_order)))
    (l_names_in_order : K.lookup f_names_in_order = some ⟨oc_names_in_order, od_names_in_order, .func (PySem.W.fnOf "names_in_order" "names_in_order" (defArgs s_names_in_order) (defBody s_names_in_order) (defScope s_names_in_order) .none kV_names_in_order dc_names_in_order pm_names_in_order an_names_in_order cd_names_in_order ct_names_in_order), sl_names_in_order⟩)
    (c_names_in_order : PySem.W.codeIn K cd_names_in_order "names_in_order" = true)
    (k_names_in_order : PySem.W.keepIn K (.ref f_names_in_order) = true)
    (a_renamed : PySem.W.nsIn K mainGlobals "renamed" = some (some (.ref f_renamed)))
    (l_renamed : K.lookup f_renamed = some ⟨oc_renamed, od_renamed, .func (PySem.W.fnOf "renamed" "renamed" (defArgs s_renamed) (defBody s_renamed) (defScope s_renamed) .none kV_renamed dc_renamed pm_renamed an_renamed cd_renamed ct_renamed), sl_renamed⟩)
    (c_renamed : PySem.W.codeIn K cd_renamed "renamed" = true)
    (k_renamed : PySem.W.keepIn K (.ref f_renamed) = true)
    (a_renamed_rows : PySem.W.nsIn K mainGlobals "renamed_rows" = some (some (.ref f_renamed_rows)))
    (l_renamed_rows : K.lookup f_renamed_rows = some ⟨oc_renamed_rows, od_renamed_rows, .func (PySem.W.fnOf "renamed_rows" "renamed_rows" (defArgs s_renamed_rows) (defBody s_renamed_rows) (defScope s_renamed_rows) .none kV_renamed_rows dc_renamed_rows pm_renamed_rows an_renamed_rows cd_renamed_rows ct_renamed_rows), sl_renamed_rows⟩)
    (c_renamed_rows : PySem.W.codeIn K cd_renamed_rows "renamed_rows" = true)
    (k_renamed_rows : PySem.W.keepIn K (.ref f_renamed_rows) = true)
    (a_is_group : PySem.W.nsIn K mainGlobals "is_group" = some (some (.ref f_is_group)))
    (l_is_group : K.lookup f_is_group = some ⟨oc_is_group, od_is_group, .func (PySem.W.fnOf "is_group" "is_group" (defArgs s_is_group) (defBody s_is_group) (defScope s_is_group) .none kV_is_group dc_is_group pm_is_group an_is_group cd_is_group ct_is_group), sl_is_group⟩)
    (c_is_group : PySem.W.codeIn K cd_is_group "is_group" = true)
    (k_is_group : PySem.W.keepIn K (.ref f_is_group) = true)
    (a_is_powers : PySem.W.nsIn K mainGlobals "is_powers" = some (some (.ref f_is_powers)))
    (l_is_powers : K.lookup f_is_powers = some ⟨oc_is_powers, od_is_powers, .func (PySem.W.fnOf "is_powers" "is_powers" (defArgs s_is_powers) (defBody s_is_powers) (defScope s_is_powers) .none kV_is_powers dc_is_powers pm_is_powers an_is_powers cd_is_powers ct_is_powers), sl_is_powers⟩)
    (c_is_powers : PySem.W.codeIn K cd_is_powers "is_powers" = true)
    (k_is_powers : PySem.W.keepIn K (.ref f_is_powers) = true)
    (a_law_bag : PySem.W.nsIn K mainGlobals "_law_bag" = some (some (.ref f_law_bag)))
    (l_law_bag : K.lookup f_law_bag = some ⟨oc_law_bag, od_law_bag, .func (PySem.W.fnOf "_law_bag" "_law_bag" (defArgs s__law_bag) (defBody s__law_bag) (defScope s__law_bag) .none kV_law_bag dc_law_bag pm_law_bag an_law_bag cd_law_bag ct_law_bag), sl_law_bag⟩)
    (c_law_bag : PySem.W.codeIn K cd_law_bag "_law_bag" = true)
    (k_law_bag : PySem.W.keepIn K (.ref f_law_bag) = true)
    (a_law_pick : PySem.W.nsIn K mainGlobals "_law_pick" = some (some (.ref f_law_pick)))
    (l_law_pick : K.lookup f_law_pick = some ⟨oc_law_pick, od_law_pick, .func (PySem.W.fnOf "_law_pick" "_law_pick" (defArgs s__law_pick) (defBody s__law_pick) (defScope s__law_pick) .none kV_law_pick dc_law_pick pm_law_pick an_law_pick cd_law_pick ct_law_pick), sl_law_pick⟩)
    (c_law_pick : PySem.W.codeIn K cd_law_pick "_law_pick" = true)
    (k_law_pick : PySem.W.keepIn K (.ref f_law_pick) = true)
    (a_law_name : PySem.W.nsIn K mainGlobals "_law_name" = some (some (.ref f_law_name)))
    (l_law_name : K.lookup f_law_name = some ⟨oc_law_name, od_law_name, .func (PySem.W.fnOf "_law_name" "_law_name" (defArgs s__law_name) (defBody s__law_name) (defScope s__law_name) .none kV_law_name dc_law_name pm_law_name an_law_name cd_law_name ct_law_name), sl_law_name⟩)
    (c_law_name : PySem.W.codeIn K cd_law_name "_law_name" = true)
    (k_law_name : PySem.W.keepIn K (.ref f_law_name) = true)
    (a_law_value : PySem.W.nsIn K mainGlobals "_law_value" = some (some (.ref f_law_value)))
    (l_law_value : K.lookup f_law_value = some ⟨oc_law_value, od_law_value, .func (PySem.W.fnOf "_law_value" "_law_value" (defArgs s__law_value) (defBody s__law_value) (defScope s__law_value) .none kV_law_value dc_law_value pm_law_value an_law_value cd_law_value ct_law_value), sl_law_value⟩)
    (c_law_value : PySem.W.codeIn K cd_law_value "_law_value" = true)
    (k_law_value : PySem.W.keepIn K (.ref f_law_value) = true)
    (a_law_tables : PySem.W.nsIn K mainGlobals "_law_tables" = some (some (.ref f_law_tables)))
    (l_law_tables : K.lookup f_law_tables = some ⟨oc_law_tables, od_law_tables, .func (PySem.W.fnOf "_law_tables" "_law_tables" (defArgs s__law_tables) (defBody s__law_tables) (defScope s__law_tables) .none kV_law_tables dc_law_tables pm_law_tables an_law_tables cd_law_tables ct_law_tables), sl_law_tables⟩)
    (c_law_tables : PySem.W.codeIn K cd_law_tables "_law_tables" = true)
    (k_law_tables : PySem.W.keepIn K (.ref f_law_tables) = true)
    (a_law_pool : PySem.W.nsIn K mainGlobals "_law_pool" = some (some (.ref f_law_pool)))
    (l_law_pool : K.lookup f_law_pool = some ⟨oc_law_pool, od_law_pool, .func (PySem.W.fnOf "_law_pool" "_law_pool" (defArgs s__law_pool) (defBody s__law_pool) (defScope s__law_pool) .none kV_law_pool dc_law_pool pm_law_pool an_law_pool cd_law_pool ct_law_pool), sl_law_pool⟩)
    (c_law_pool : PySem.W.codeIn K cd_law_pool "_law_pool" = true)
    (k_law_pool : PySem.W.keepIn K (.ref f_law_pool) = true)
    (a_law_pattern : PySem.W.nsIn K mainGlobals "_law_pattern" = some (some (.ref f_law_pattern)))
    (l_law_pattern : K.lookup f_law_pattern = some ⟨oc_law_pattern, od_law_pattern, .func (PySem.W.fnOf "_law_pattern" "_law_pattern" (defArgs s__law_pattern) (defBody s__law_pattern) (defScope s__law_pattern) .none kV_law_pattern dc_law_pattern pm_law_pattern an_law_pattern cd_law_pattern ct_law_pattern), sl_law_pattern⟩)
    (c_law_pattern : PySem.W.codeIn K cd_law_pattern "_law_pattern" = true)
    (k_law_pattern : PySem.W.keepIn K (.ref f_law_pattern) = true)
    (a_law_due : PySem.W.nsIn K mainGlobals "_law_due" = some (some (.ref f_law_due)))
    (l_law_due : K.lookup f_law_due = some ⟨oc_law_due, od_law_due, .func (PySem.W.fnOf "_law_due" "_law_due" (defArgs s__law_due) (defBody s__law_due) (defScope s__law_due) .none kV_law_due dc_law_due pm_law_due an_law_due cd_law_due ct_law_due), sl_law_due⟩)
    (c_law_due : PySem.W.codeIn K cd_law_due "_law_due" = true)
    (k_law_due : PySem.W.keepIn K (.ref f_law_due) = true)
    (a_law_same : PySem.W.nsIn K mainGlobals "_law_same" = some (some (.ref f_law_same)))
    (l_law_same : K.lookup f_law_same = some ⟨oc_law_same, od_law_same, .func (PySem.W.fnOf "_law_same" "_law_same" (defArgs s__law_same) (defBody s__law_same) (defScope s__law_same) .none kV_law_same dc_law_same pm_law_same an_law_same cd_law_same ct_law_same), sl_law_same⟩)
    (c_law_same : PySem.W.codeIn K cd_law_same "_law_same" = true)
    (k_law_same : PySem.W.keepIn K (.ref f_law_same) = true)
    (a_law_turned : PySem.W.nsIn K mainGlobals "_law_turned" = some (some (.ref f_law_turned)))
    (l_law_turned : K.lookup f_law_turned = some ⟨oc_law_turned, od_law_turned, .func (PySem.W.fnOf "_law_turned" "_law_turned" (defArgs s__law_turned) (defBody s__law_turned) (defScope s__law_turned) .none kV_law_turned dc_law_turned pm_law_turned an_law_turned cd_law_turned ct_law_turned), sl_law_turned⟩)
    (c_law_turned : PySem.W.codeIn K cd_law_turned "_law_turned" = true)
    (k_law_turned : PySem.W.keepIn K (.ref f_law_turned) = true)
    (a_law_changed : PySem.W.nsIn K mainGlobals "_law_changed" = some (some (.ref f_law_changed)))
    (l_law_changed : K.lookup f_law_changed = some ⟨oc_law_changed, od_law_changed, .func (PySem.W.fnOf "_law_changed" "_law_changed" (defArgs s__law_changed) (defBody s__law_changed) (defScope s__law_changed) .none kV_law_changed dc_law_changed pm_law_changed an_law_changed cd_law_changed ct_law_changed), sl_law_changed⟩)
    (c_law_changed : PySem.W.codeIn K cd_law_changed "_law_changed" = true)
    (k_law_changed : PySem.W.keepIn K (.ref f_law_changed) = true)
    (a_law_formed : PySem.W.nsIn K mainGlobals "_law_formed" = some (some (.ref f_law_formed)))
    (l_law_formed : K.lookup f_law_formed = some ⟨oc_law_formed, od_law_formed, .func (PySem.W.fnOf "_law_formed" "_law_formed" (defArgs s__law_formed) (defBody s__law_formed) (defScope s__law_formed) .none kV_law_formed dc_law_formed pm_law_formed an_law_formed cd_law_formed ct_law_formed), sl_law_formed⟩)
    (c_law_formed : PySem.W.codeIn K cd_law_formed "_law_formed" = true)
    (k_law_formed : PySem.W.keepIn K (.ref f_law_formed) = true)
    (a_law_given : PySem.W.nsIn K mainGlobals "_law_given" = some (some (.ref f_law_given)))
    (l_law_given : K.lookup f_law_given = some ⟨oc_law_given, od_law_given, .func (PySem.W.fnOf "_law_given" "_law_given" (defArgs s__law_given) (defBody s__law_given) (defScope s__law_given) .none kV_law_given dc_law_given pm_law_given an_law_given cd_law_given ct_law_given), sl_law_given⟩)
    (c_law_given : PySem.W.codeIn K cd_law_given "_law_given" = true)
    (k_law_given : PySem.W.keepIn K (.ref f_law_given) = true)
    (a_law_is : PySem.W.nsIn K mainGlobals "_law_is" = some (some (.ref f_law_is)))
    (l_law_is : K.lookup f_law_is = some ⟨oc_law_is, od_law_is, .func (PySem.W.fnOf "_law_is" "_law_is" (defArgs s__law_is) (defBody s__law_is) (defScope s__law_is) .none kV_law_is dc_law_is pm_law_is an_law_is cd_law_is ct_law_is), sl_law_is⟩)
    (c_law_is : PySem.W.codeIn K cd_law_is "_law_is" = true)
    (k_law_is : PySem.W.keepIn K (.ref f_law_is) = true)
    (m_Pattern : PySem.W.nsIn K mainGlobals "Pattern" = some (some (.ref C_Pattern)))
    (a_Pattern_init : PySem.W.findIn K (.ref C_Pattern) "__init__" = some (some (.ref f_Pattern_init)))
    (l_Pattern_init : K.lookup f_Pattern_init = some ⟨oc_Pattern_init, od_Pattern_init, .func (PySem.W.fnOf "__init__" "Pattern.__init__" (defArgs s_Pattern_init) (defBody s_Pattern_init) (defScope s_Pattern_init) .none kV_Pattern_init dc_Pattern_init pm_Pattern_init an_Pattern_init cd_Pattern_init ct_Pattern_init), sl_Pattern_init⟩)
    (c_Pattern_init : PySem.W.codeIn K cd_Pattern_init "Pattern.__init__" = true)
    (k_Pattern_init : PySem.W.keepIn K (.ref f_Pattern_init) = true)
    (i_Pattern_init : PySem.W.isFn K (.ref f_Pattern_init) = true)
    (a_Pattern_eq : PySem.W.findIn K (.ref C_Pattern) "__eq__" = some (some (.ref f_Pattern_eq)))
    (l_Pattern_eq : K.lookup f_Pattern_eq = some ⟨oc_Pattern_eq, od_Pattern_eq, .func (PySem.W.fnOf "__eq__" "Pattern.__eq__" (defArgs s_Pattern_eq) (defBody s_Pattern_eq) (defScope s_Pattern_eq) .none kV_Pattern_eq dc_Pattern_eq pm_Pattern_eq an_Pattern_eq cd_Pattern_eq ct_Pattern_eq), sl_Pattern_eq⟩)
    (c_Pattern_eq : PySem.W.codeIn K cd_Pattern_eq "Pattern.__eq__" = true)
    (k_Pattern_eq : PySem.W.keepIn K (.ref f_Pattern_eq) = true)
    (i_Pattern_eq : PySem.W.isFn K (.ref f_Pattern_eq) = true)
    (pg_Pattern : PySem.W.plainGet K C_Pattern Str.empty = true)
    (hd_Pattern : PySem.W.hasDictIn K C_Pattern = true)
    (po_Pattern : PySem.W.plainOver K C_Pattern = true)
    (sa_Pattern : PySem.W.findIn K (.ref C_Pattern) "__setattr__" = some (some (.builtin "object.__setattr__")))
    (mk_Pattern : PySem.W.makesIn K C_Pattern = true)
    (kc_Pattern : PySem.W.keepIn K (.ref C_Pattern) = true)
    (na_Pattern_rows : PySem.W.findIn K (.ref C_Pattern) "rows" = some none)
    (na_Pattern_group : PySem.W.findIn K (.ref C_Pattern) "group" = some none)
    (na_Pattern_powers : PySem.W.findIn K (.ref C_Pattern) "powers" = some none)
    (ha_Pattern : PySem.W.findIn K (.ref C_Pattern) "__class__" = some (some (.builtin "object.__class__")))
    (hn_Pattern : PySem.W.specialIn K (.builtin "object.__class__") "__get__" = some (some (.builtin "getset_descriptor.__get__")))
    (ht_Pattern : PySem.W.takesIn K (.builtin "object.__class__") = some true)
    (hm_Pattern : PySem.W.mroIn K C_Pattern (.type "object") = some true)
    (ne_Pattern : PySem.W.findIn K (.ref C_Pattern) "__ne__" = some (some (.builtin "object.__ne__")))
    (ob_Pattern : PySem.W.subIn K (.ref C_Pattern) (.type "object") = some true)
    (kt_Pattern_NoneType : PySem.W.kitOne K (.type "NoneType") (.ref C_Pattern) = some false)
    (nf_Pattern_NoneType : PySem.W.notFirst K C_Pattern (.type "NoneType") = true)
    (kt_Pattern_bool : PySem.W.kitOne K (.type "bool") (.ref C_Pattern) = some false)
    (nf_Pattern_bool : PySem.W.notFirst K C_Pattern (.type "bool") = true)
    (kt_Pattern_int : PySem.W.kitOne K (.type "int") (.ref C_Pattern) = some false)
    (nf_Pattern_int : PySem.W.notFirst K C_Pattern (.type "int") = true)
    (kt_Pattern_str : PySem.W.kitOne K (.type "str") (.ref C_Pattern) = some false)
    (nf_Pattern_str : PySem.W.notFirst K C_Pattern (.type "str") = true)
    (kt_Pattern_list : PySem.W.kitOne K (.type "list") (.ref C_Pattern) = some false)
    (nf_Pattern_list : PySem.W.notFirst K C_Pattern (.type "list") = true)
    (kt_Pattern_tuple : PySem.W.kitOne K (.type "tuple") (.ref C_Pattern) = some false)
    (nf_Pattern_tuple : PySem.W.notFirst K C_Pattern (.type "tuple") = true)
    (kt_Pattern_dict : PySem.W.kitOne K (.type "dict") (.ref C_Pattern) = some false)
    (nf_Pattern_dict : PySem.W.notFirst K C_Pattern (.type "dict") = true)
    (a_law : PySem.W.nsIn K mainGlobals "law" = some (some (.ref f_law)))
    (l_law : K.lookup f_law = some ⟨oc_law, od_law, .func (PySem.W.fnOf "law" "law" (defArgs s_law) (defBody s_law) (defScope s_law) .none kV_law dc_law pm_law an_law cd_law ct_law), sl_law⟩)
    (c_law : PySem.W.codeIn K cd_law "law" = true)
    (k_law : PySem.W.keepIn K (.ref f_law) = true) :
    ∃ fd : FuncData, (∀ (s : Shared) (v : Value), BindsTo s fd ⟨[v], []⟩ [("_law_script", v)]) ∧ ∀ base : Heap, K.In base → base.Ns mainGlobals mg → (∃ o, base.get? sysModules = some o) → TopOk l.prog w K mg base fa fd ["_law_script"] (spLaw K) := by
  have e := hfa.symm.trans (PySem.W.mg_of X G a_law)
  cases e
  have B : Bi mg := ⟨PySem.W.mg_none_of X G z_len, PySem.W.mg_none_of X G z_list, PySem.W.mg_none_of X G z_tuple, PySem.W.mg_none_of X G z_isinstance, PySem.W.mg_none_of X G z_int, PySem.W.mg_none_of X G z_range, PySem.W.mg_none_of X G z_max, PySem.W.mg_none_of X G z_all, PySem.W.mg_none_of X G z_bool, PySem.W.mg_none_of X G z_dict, PySem.W.mg_none_of X G z_str, PySem.W.mg_none_of X G z_enumerate⟩
  have N_LETTERS_tables := PySem.W.mg_of X G n_LETTERS_tables
  have N_LETTERS_patterns := PySem.W.mg_of X G n_LETTERS_patterns
  have N_MOST_VALUE := PySem.W.mg_of X G n_MOST_VALUE
  have N_MOST_ROWS := PySem.W.mg_of X G n_MOST_ROWS
  have F_is_row := fun_mk (st := s_is_row) l_is_row c_is_row k_is_row
  have b_is_row := F_is_row.binds (ps := ["thing"]) fun _ _ _ _ _ _ us hl => match us, hl with | [_], _ => rfl
  have D_is_row : Dfn K mg "is_row" s_is_row ["thing"] := ⟨_, _, F_is_row, PySem.W.mg_of X G a_is_row, b_is_row⟩
  have F_is_integer := fun_mk (st := s_is_integer) l_is_integer c_is_integer k_is_integer
  have b_is_integer := F_is_integer.binds (ps := ["thing"]) fun _ _ _ _ _ _ us hl => match us, hl with | [_], _ => rfl
  have D_is_integer : Dfn K mg "is_integer" s_is_integer ["thing"] := ⟨_, _, F_is_integer, PySem.W.mg_of X G a_is_integer, b_is_integer⟩
  have F_is_value := fun_mk (st := s_is_value) l_is_value c_is_value k_is_value
  have b_is_value := F_is_value.binds (ps := ["thing"]) fun _ _ _ _ _ _ us hl => match us, hl with | [_], _ => rfl
  have D_is_value : Dfn K mg "is_value" s_is_value ["thing"] := ⟨_, _, F_is_value, PySem.W.mg_of X G a_is_value, b_is_value⟩
  have F_is_name := fun_mk (st := s_is_name) l_is_name c_is_name k_is_name
  have b_is_name := F_is_name.binds (ps := ["thing"]) fun _ _ _ _ _ _ us hl => match us, hl with | [_], _ => rfl
  have D_is_name : Dfn K mg "is_name" s_is_name ["thing"] := ⟨_, _, F_is_name, PySem.W.mg_of X G a_is_name, b_is_name⟩
  have F_checked_rows := fun_mk (st := s_checked_rows) l_checked_rows c_checked_rows k_checked_rows
  have b_checked_rows := F_checked_rows.binds (ps := ["rows"]) fun _ _ _ _ _ _ us hl => match us, hl with | [_], _ => rfl
  have D_checked_rows : Dfn K mg "checked_rows" s_checked_rows ["rows"] := ⟨_, _, F_checked_rows, PySem.W.mg_of X G a_checked_rows, b_checked_rows⟩
  have F_names_in_order := fun_mk (st := s_names_in_order) l_names_in_order c_names_in_order k_names_in_order
  have b_names_in_order := F_names_in_order.binds (ps := ["rows"]) fun _ _ _ _ _ _ us hl => match us, hl with | [_], _ => rfl
  have D_names_in_order : Dfn K mg "names_in_order" s_names_in_order ["rows"] := ⟨_, _, F_names_in_order, PySem.W.mg_of X G a_names_in_order, b_names_in_order⟩
  have F_renamed := fun_mk (st := s_renamed) l_renamed c_renamed k_renamed
  have b_renamed := F_renamed.binds (ps := ["symbols", "names"]) fun _ _ _ _ _ _ us hl => match us, hl with | [_, _], _ => rfl
  have D_renamed : Dfn K mg "renamed" s_renamed ["symbols", "names"] := ⟨_, _, F_renamed, PySem.W.mg_of X G a_renamed, b_renamed⟩
  have F_renamed_rows := fun_mk (st := s_renamed_rows) l_renamed_rows c_renamed_rows k_renamed_rows
  have b_renamed_rows := F_renamed_rows.binds (ps := ["rows", "names"]) fun _ _ _ _ _ _ us hl => match us, hl with | [_, _], _ => rfl
  have D_renamed_rows : Dfn K mg "renamed_rows" s_renamed_rows ["rows", "names"] := ⟨_, _, F_renamed_rows, PySem.W.mg_of X G a_renamed_rows, b_renamed_rows⟩
  have F_is_group := fun_mk (st := s_is_group) l_is_group c_is_group k_is_group
  have b_is_group := F_is_group.binds (ps := ["group", "names"]) fun _ _ _ _ _ _ us hl => match us, hl with | [_, _], _ => rfl
  have D_is_group : Dfn K mg "is_group" s_is_group ["group", "names"] := ⟨_, _, F_is_group, PySem.W.mg_of X G a_is_group, b_is_group⟩
  have F_is_powers := fun_mk (st := s_is_powers) l_is_powers c_is_powers k_is_powers
  have b_is_powers := F_is_powers.binds (ps := ["powers", "names"]) fun _ _ _ _ _ _ us hl => match us, hl with | [_, _], _ => rfl
  have D_is_powers : Dfn K mg "is_powers" s_is_powers ["powers", "names"] := ⟨_, _, F_is_powers, PySem.W.mg_of X G a_is_powers, b_is_powers⟩
  have F_law_bag := fun_mk (st := s__law_bag) l_law_bag c_law_bag k_law_bag
  have b_law_bag := F_law_bag.binds (ps := ["_law_script"]) fun _ _ _ _ _ _ us hl => match us, hl with | [_], _ => rfl
  have D_law_bag : Dfn K mg "_law_bag" s__law_bag ["_law_script"] := ⟨_, _, F_law_bag, PySem.W.mg_of X G a_law_bag, b_law_bag⟩
  have F_law_pick := fun_mk (st := s__law_pick) l_law_pick c_law_pick k_law_pick
  have b_law_pick := F_law_pick.binds (ps := ["_law_bag_here", "_law_many"]) fun _ _ _ _ _ _ us hl => match us, hl with | [_, _], _ => rfl
  have D_law_pick : Dfn K mg "_law_pick" s__law_pick ["_law_bag_here", "_law_many"] := ⟨_, _, F_law_pick, PySem.W.mg_of X G a_law_pick, b_law_pick⟩
  have F_law_name := fun_mk (st := s__law_name) l_law_name c_law_name k_law_name
  have b_law_name := F_law_name.binds (ps := ["_law_bag_here", "_law_taken"]) fun _ _ _ _ _ _ us hl => match us, hl with | [_, _], _ => rfl
  have D_law_name : Dfn K mg "_law_name" s__law_name ["_law_bag_here", "_law_taken"] := ⟨_, _, F_law_name, PySem.W.mg_of X G a_law_name, b_law_name⟩
  have F_law_value := fun_mk (st := s__law_value) l_law_value c_law_value k_law_value
  have b_law_value := F_law_value.binds (ps := ["_law_bag_here"]) fun _ _ _ _ _ _ us hl => match us, hl with | [_], _ => rfl
  have D_law_value : Dfn K mg "_law_value" s__law_value ["_law_bag_here"] := ⟨_, _, F_law_value, PySem.W.mg_of X G a_law_value, b_law_value⟩
  have F_law_tables := fun_mk (st := s__law_tables) l_law_tables c_law_tables k_law_tables
  have b_law_tables := F_law_tables.binds (ps := ["_law_bag_here"]) fun _ _ _ _ _ _ us hl => match us, hl with | [_], _ => rfl
  have D_law_tables : Dfn K mg "_law_tables" s__law_tables ["_law_bag_here"] := ⟨_, _, F_law_tables, PySem.W.mg_of X G a_law_tables, b_law_tables⟩
  have F_law_pool := fun_mk (st := s__law_pool) l_law_pool c_law_pool k_law_pool
  have b_law_pool := F_law_pool.binds (ps := ["_law_bag_here"]) fun _ _ _ _ _ _ us hl => match us, hl with | [_], _ => rfl
  have D_law_pool : Dfn K mg "_law_pool" s__law_pool ["_law_bag_here"] := ⟨_, _, F_law_pool, PySem.W.mg_of X G a_law_pool, b_law_pool⟩
  have F_law_pattern := fun_mk (st := s__law_pattern) l_law_pattern c_law_pattern k_law_pattern
  have b_law_pattern := F_law_pattern.binds (ps := ["_law_bag_here", "_law_tables_here", "_law_most"]) fun _ _ _ _ _ _ us hl => match us, hl with | [_, _, _], _ => rfl
  have D_law_pattern : Dfn K mg "_law_pattern" s__law_pattern ["_law_bag_here", "_law_tables_here", "_law_most"] := ⟨_, _, F_law_pattern, PySem.W.mg_of X G a_law_pattern, b_law_pattern⟩
  have F_law_due := fun_mk (st := s__law_due) l_law_due c_law_due k_law_due
  have b_law_due := F_law_due.binds (ps := ["_law_rows", "_law_group", "_law_powers"]) fun _ _ _ _ _ _ us hl => match us, hl with | [_, _, _], _ => rfl
  have D_law_due : Dfn K mg "_law_due" s__law_due ["_law_rows", "_law_group", "_law_powers"] := ⟨_, _, F_law_due, PySem.W.mg_of X G a_law_due, b_law_due⟩
  have F_law_same := fun_mk (st := s__law_same) l_law_same c_law_same k_law_same
  have b_law_same := F_law_same.binds (ps := ["_law_actual", "_law_due_here"]) fun _ _ _ _ _ _ us hl => match us, hl with | [_, _], _ => rfl
  have D_law_same : Dfn K mg "_law_same" s__law_same ["_law_actual", "_law_due_here"] := ⟨_, _, F_law_same, PySem.W.mg_of X G a_law_same, b_law_same⟩
  have F_law_turned := fun_mk (st := s__law_turned) l_law_turned c_law_turned k_law_turned
  have b_law_turned := F_law_turned.binds (ps := ["_law_rows", "_law_group", "_law_powers", "_law_pool_here"]) fun _ _ _ _ _ _ us hl => match us, hl with | [_, _, _, _], _ => rfl
  have D_law_turned : Dfn K mg "_law_turned" s__law_turned ["_law_rows", "_law_group", "_law_powers", "_law_pool_here"] := ⟨_, _, F_law_turned, PySem.W.mg_of X G a_law_turned, b_law_turned⟩
  have F_law_changed := fun_mk (st := s__law_changed) l_law_changed c_law_changed k_law_changed
  have b_law_changed := F_law_changed.binds (ps := ["_law_bag_here", "_law_rows", "_law_group", "_law_powers"]) fun _ _ _ _ _ _ us hl => match us, hl with | [_, _, _, _], _ => rfl
  have D_law_changed : Dfn K mg "_law_changed" s__law_changed ["_law_bag_here", "_law_rows", "_law_group", "_law_powers"] := ⟨_, _, F_law_changed, PySem.W.mg_of X G a_law_changed, b_law_changed⟩
  have F_law_formed := fun_mk (st := s__law_formed) l_law_formed c_law_formed k_law_formed
  have b_law_formed := F_law_formed.binds (ps := ["_law_bag_here", "_law_row"]) fun _ _ _ _ _ _ us hl => match us, hl with | [_, _], _ => rfl
  have D_law_formed : Dfn K mg "_law_formed" s__law_formed ["_law_bag_here", "_law_row"] := ⟨_, _, F_law_formed, PySem.W.mg_of X G a_law_formed, b_law_formed⟩
  have F_law_given := fun_mk (st := s__law_given) l_law_given c_law_given k_law_given
  have b_law_given := F_law_given.binds (ps := ["_law_bag_here", "_law_rows", "_law_group", "_law_powers"]) fun _ _ _ _ _ _ us hl => match us, hl with | [_, _, _, _], _ => rfl
  have D_law_given : Dfn K mg "_law_given" s__law_given ["_law_bag_here", "_law_rows", "_law_group", "_law_powers"] := ⟨_, _, F_law_given, PySem.W.mg_of X G a_law_given, b_law_given⟩
  have F_law_is := fun_mk (st := s__law_is) l_law_is c_law_is k_law_is
  have b_law_is := F_law_is.binds (ps := ["_law_pattern_here", "_law_due_here"]) fun _ _ _ _ _ _ us hl => match us, hl with | [_, _], _ => rfl
  have D_law_is : Dfn K mg "_law_is" s__law_is ["_law_pattern_here", "_law_due_here"] := ⟨_, _, F_law_is, PySem.W.mg_of X G a_law_is, b_law_is⟩
  have F_Pattern_init := fun_mk (st := s_Pattern_init) l_Pattern_init c_Pattern_init k_Pattern_init
  have b_Pattern_init := F_Pattern_init.binds (ps := ["self", "rows", "group", "powers"]) fun _ _ _ _ _ _ us hl => match us, hl with | [_, _, _, _], _ => rfl
  have M_Pattern_init : Meth K C_Pattern "__init__" f_Pattern_init := ⟨a_Pattern_init, i_Pattern_init, k_Pattern_init⟩
  have F_Pattern_eq := fun_mk (st := s_Pattern_eq) l_Pattern_eq c_Pattern_eq k_Pattern_eq
  have b_Pattern_eq := F_Pattern_eq.binds (ps := ["self", "other"]) fun _ _ _ _ _ _ us hl => match us, hl with | [_, _], _ => rfl
  have M_Pattern_eq : Meth K C_Pattern "__eq__" f_Pattern_eq := ⟨a_Pattern_eq, i_Pattern_eq, k_Pattern_eq⟩
  have CL_Pattern : Cls K C_Pattern := ⟨pg_Pattern, hd_Pattern, po_Pattern, sa_Pattern⟩
  have XX_Pattern : InsX K C_Pattern := ⟨CL_Pattern, ha_Pattern, hn_Pattern, ht_Pattern, hm_Pattern, by simp only [List.mem_cons, List.not_mem_nil, or_false, forall_eq_or_imp, forall_eq]; exact ⟨kt_Pattern_NoneType, kt_Pattern_bool, kt_Pattern_int, kt_Pattern_str, kt_Pattern_list, kt_Pattern_tuple, kt_Pattern_dict⟩⟩
  have F_law := fun_mk (st := s_law) l_law c_law k_law
  refine ⟨PySem.W.fnOf "law" "law" (defArgs s_law) (defBody s_law) (defScope s_law) .none kV_law dc_law pm_law an_law cd_law ct_law, fun s v => .of_eq rfl, fun base _ _ hsys => ?_⟩
  have BP : BiP mg := ⟨B, PySem.W.mg_none_of X G z_sorted⟩
  have U : PatCls K mg C_Pattern := ⟨CL_Pattern, na_Pattern_rows, na_Pattern_group, na_Pattern_powers, PySem.W.mg_of X G m_Pattern⟩
  have G_is_row : Has l.prog w K mg base CX0 "is_row" ["thing"] 1 spIsRow := ok_is_row B D_is_row
  have G_is_integer : Has l.prog w K mg base CX0 "is_integer" ["thing"] 1 spInt := ok_is_integer B D_is_integer
  have G_is_value : Has l.prog w K mg base CX0 "is_value" ["thing"] 2 spIsVal := ok_is_value B N_MOST_VALUE D_is_value G_is_integer
  have G_is_name : Has l.prog w K mg base CX0 "is_name" ["thing"] 1 spIsName := ok_is_name B N_LETTERS_tables D_is_name
  have G_checked_rows : Has l.prog w K mg base CX0 "checked_rows" ["rows"] 3 spChecked := ok_checked B N_MOST_ROWS D_checked_rows G_is_row G_is_name G_is_value
  have G_names_in_order : Has l.prog w K mg base CX0 "names_in_order" ["rows"] 2 spNames := ok_names B N_LETTERS_patterns D_names_in_order
  have G_renamed : Has l.prog w K mg base CX0 "renamed" ["symbols", "names"] 2 spRenamed := ok_renamed B D_renamed
  have G_renamed_rows : Has l.prog w K mg base CX0 "renamed_rows" ["rows", "names"] 3 spRenRows := ok_renrows B D_renamed_rows G_renamed
  have G_is_group : Has l.prog w K mg base CX0 "is_group" ["group", "names"] 3 spIsGroup := ok_is_group B D_is_group G_is_row G_is_value
  have G_is_powers : Has l.prog w K mg base CX0 "is_powers" ["powers", "names"] 2 spIsPowers := ok_is_powers B D_is_powers G_is_integer
  have GI : FnOk l.prog w K mg base CX0 4 f_Pattern_init _ ["self", "rows", "group", "powers"] (spPatI C_Pattern) := ok_pat_init BP F_Pattern_init U G_checked_rows G_names_in_order G_is_group G_is_powers G_renamed_rows G_renamed
  have GE : FnOk l.prog w K mg base CX0 1 f_Pattern_eq _ ["self", "other"] (spPatEq C_Pattern) := ok_pat_eq B F_Pattern_eq U XX_Pattern
  have nf0 : ∀ C : Addr, PySem.W.notFirst K C (.ref C) = true := fun C => by simp [PySem.W.notFirst]
  have G_law_pick : Has l.prog w K mg base CX0 "_law_pick" ["_law_bag_here", "_law_many"] 1 spPick := ok_pick B D_law_pick
  have G_law_name : Has l.prog w K mg base CX0 "_law_name" ["_law_bag_here", "_law_taken"] 2 spName := ok_name B D_law_name G_law_pick
  have G_law_value : Has l.prog w K mg base CX0 "_law_value" ["_law_bag_here"] 2 spValue := ok_value B D_law_value G_law_pick
  have G_law_tables : Has l.prog w K mg base CX0 "_law_tables" ["_law_bag_here"] 3 spTables := ok_tables B D_law_tables G_law_pick G_law_name
  have G_law_pool : Has l.prog w K mg base CX0 "_law_pool" ["_law_bag_here"] 2 spPool := ok_pool B D_law_pool G_law_pick
  have G_law_pattern : Has l.prog w K mg base CX0 "_law_pattern" ["_law_bag_here", "_law_tables_here", "_law_most"] 3 spPattern := ok_pattern B D_law_pattern G_law_pick G_law_pool G_law_value
  have G_law_due : Has l.prog w K mg base CX0 "_law_due" ["_law_rows", "_law_group", "_law_powers"] 2 spDue := ok_due BP D_law_due
  have G_law_same : Has l.prog w K mg base CX0 "_law_same" ["_law_actual", "_law_due_here"] 4 (spSame 3) := ok_same B D_law_same 3
  have G_law_is : Has l.prog w K mg base CX0 "_law_is" ["_law_pattern_here", "_law_due_here"] 5 (spIs C_Pattern) := ok_is B U D_law_is G_law_same
  have G_law_turned : Has l.prog w K mg base CX0 "_law_turned" ["_law_rows", "_law_group", "_law_powers", "_law_pool_here"] 2 spTurned := ok_turned B D_law_turned
  have G_law_formed : Has l.prog w K mg base CX0 "_law_formed" ["_law_bag_here", "_law_row"] 2 spFormed := ok_formed B D_law_formed G_law_pick
  have G_law_given : Has l.prog w K mg base CX0 "_law_given" ["_law_bag_here", "_law_rows", "_law_group", "_law_powers"] 3 spGiven := ok_given B D_law_given G_law_formed
  have G_law_changed : Has l.prog w K mg base CX0 "_law_changed" ["_law_bag_here", "_law_rows", "_law_group", "_law_powers"] 3 spChanged := ok_changed B D_law_changed G_law_pick G_law_value
  exact ok_law BP (PySem.W.mg_none_of X G z_repr) hsys F_law U XX_Pattern ⟨mk_Pattern, a_Pattern_init, i_Pattern_init, kc_Pattern⟩ GI b_Pattern_init GE b_Pattern_eq ⟨a_Pattern_eq, i_Pattern_eq, ne_Pattern, ob_Pattern⟩ (nf0 _) (ok_bag B D_law_bag) G_law_tables G_law_pattern G_law_due G_law_given G_law_is G_law_turned G_law_pool G_law_changed ⟨rfl, by decide, by decide⟩
theorem walk {l : PySem.W.OpenLaw} {q : Program} {loose : List Str} {XP : (Str → Option Value) → Heap → Prop} {YP : World → Heap → Prop} {d : DefRec} {K : Params → PySem.W.Frag} (hn : l.most = some 63) (hdf : d.params.defaults = []) (hq : importsNone q = true)
    (hY : ∀ (w : World) (h : Heap), YP w h → (K w.params).In h)
    (F : ∀ (w : World) (mg : Str → Option Value) (fa : Addr) (h : Heap), (K w.params).In h → h.Ns mainGlobals mg → mg d.name = some (.ref fa) →
      ∃ fd : FuncData, (∀ (s : Shared) (u : Value), BindsTo s fd ⟨[u], []⟩ [("_law_script", u)]) ∧ ∀ base : Heap, (K w.params).In base → base.Ns mainGlobals mg → (∃ o, base.get? sysModules = some o) → TopOk l.prog w (K w.params) mg base fa fd ["_law_script"] (spLaw (K w.params))) :
    PySem.W.WalkO q loose XP YP l.row.toRowW d [] (fun f vs => PySem.call f vs) :=
  walk_top (n := 63) (x := "_law_script") (sp := fun w => spLaw (K w.params)) hn (by decide) hdf hq hY F (fun _ _ a ns hl hS => ⟨a, ns, rfl, hS, hl, fun _ => rfl⟩)
end Fm
open PySem PySem.W PyProof.Rows
set_option maxRecDepth 100000 in
set_option maxHeartbeats 0 in
theorem PySem.Challenge.cw_firstmet_k25_pattern_names_holds : PySem.Challenge.rw_firstmet_k25_pattern_names.Holds := by
  w_on; o_law; k_head; (case hw => w_witness2)
  k_fill
  refine Fm.walk (l := PySem.Challenge.rw_firstmet_k25_pattern_names) rfl rfl ?Q (fun w h Y => PySem.W.kIn_of Y) ?F
  case Q => first | rfl | kernel_rfl | decide +kernel
  case F =>
    intro w mg fa h KX G hmg
    refine' Fm.all_mk KX G hmg ?z_len ?z_list ?z_tuple ?z_isinstance ?z_int ?z_range ?z_max ?z_all ?z_bool ?z_dict ?z_str ?z_enumerate ?z_sorted ?z_repr ?n_LETTERS_tables ?n_LETTERS_patterns ?n_MOST_VALUE ?n_MOST_ROWS ?a_is_row ?l_is_row ?c_is_row ?k_is_row ?a_is_integer ?l_is_integer ?c_is_integer ?k_is_integer ?a_is_value ?l_is_value ?c_is_value ?k_is_value ?a_is_name ?l_is_name ?c_is_name ?k_is_name ?a_checked_rows ?l_checked_rows ?c_checked_rows ?k_checked_rows ?a_names_in_order ?l_names_in_order ?c_names_in_order ?k_names_in_order ?a_renamed ?l_renamed ?c_renamed ?k_renamed ?a_renamed_rows ?l_renamed_rows ?c_renamed_rows ?k_renamed_rows ?a_is_group ?l_is_group ?c_is_group ?k_is_group ?a_is_powers ?l_is_powers ?c_is_powers ?k_is_powers ?a_law_bag ?l_law_bag ?c_law_bag ?k_law_bag ?a_law_pick ?l_law_pick ?c_law_pick ?k_law_pick ?a_law_name ?l_law_name ?c_law_name ?k_law_name ?a_law_value ?l_law_value ?c_law_value ?k_law_value ?a_law_tables ?l_law_tables ?c_law_tables ?k_law_tables ?a_law_pool ?l_law_pool ?c_law_pool ?k_law_pool ?a_law_pattern ?l_law_pattern ?c_law_pattern ?k_law_pattern ?a_law_due ?l_law_due ?c_law_due ?k_law_due ?a_law_same ?l_law_same ?c_law_same ?k_law_same ?a_law_turned ?l_law_turned ?c_law_turned ?k_law_turned ?a_law_changed ?l_law_changed ?c_law_changed ?k_law_changed ?a_law_formed ?l_law_formed ?c_law_formed ?k_law_formed ?a_law_given ?l_law_given ?c_law_given ?k_law_given ?a_law_is ?l_law_is ?c_law_is ?k_law_is ?m_Pattern ?a_Pattern_init ?l_Pattern_init ?c_Pattern_init ?k_Pattern_init ?i_Pattern_init ?a_Pattern_eq ?l_Pattern_eq ?c_Pattern_eq ?k_Pattern_eq ?i_Pattern_eq ?pg_Pattern ?hd_Pattern ?po_Pattern ?sa_Pattern ?mk_Pattern ?kc_Pattern ?na_Pattern_rows ?na_Pattern_group ?na_Pattern_powers ?ha_Pattern ?hn_Pattern ?ht_Pattern ?hm_Pattern ?ne_Pattern ?ob_Pattern ?kt_Pattern_NoneType ?nf_Pattern_NoneType ?kt_Pattern_bool ?nf_Pattern_bool ?kt_Pattern_int ?nf_Pattern_int ?kt_Pattern_str ?nf_Pattern_str ?kt_Pattern_list ?nf_Pattern_list ?kt_Pattern_tuple ?nf_Pattern_tuple ?kt_Pattern_dict ?nf_Pattern_dict ?a_law ?l_law ?c_law ?k_law
    (case z_len => k_is)
    (case z_list => k_is)
    (case z_tuple => k_is)
    (case z_isinstance => k_is)
    (case z_int => k_is)
    (case z_range => k_is)
    (case z_max => k_is)
    (case z_all => k_is)
    (case z_bool => k_is)
    (case z_dict => k_is)
    (case z_str => k_is)
    (case z_enumerate => k_is)
    (case z_sorted => k_is)
    (case z_repr => k_is)
    (case n_LETTERS_tables => k_is)
    (case n_LETTERS_patterns => k_is)
    (case n_MOST_VALUE => k_is)
    (case n_MOST_ROWS => k_is)
    (case a_is_row => k_is)
    (case l_is_row => k_is)
    (case c_is_row => k_is)
    (case k_is_row => k_is)
    (case a_is_integer => k_is)
    (case l_is_integer => k_is)
    (case c_is_integer => k_is)
    (case k_is_integer => k_is)
    (case a_is_value => k_is)
    (case l_is_value => k_is)
    (case c_is_value => k_is)
    (case k_is_value => k_is)
    (case a_is_name => k_is)
    (case l_is_name => k_is)
    (case c_is_name => k_is)
    (case k_is_name => k_is)
    (case a_checked_rows => k_is)
    (case l_checked_rows => k_is)
    (case c_checked_rows => k_is)
    (case k_checked_rows => k_is)
    (case a_names_in_order => k_is)
    (case l_names_in_order => k_is)
    (case c_names_in_order => k_is)
    (case k_names_in_order => k_is)
    (case a_renamed => k_is)
    (case l_renamed => k_is)
    (case c_renamed => k_is)
    (case k_renamed => k_is)
    (case a_renamed_rows => k_is)
    (case l_renamed_rows => k_is)
    (case c_renamed_rows => k_is)
    (case k_renamed_rows => k_is)
    (case a_is_group => k_is)
    (case l_is_group => k_is)
    (case c_is_group => k_is)
    (case k_is_group => k_is)
    (case a_is_powers => k_is)
    (case l_is_powers => k_is)
    (case c_is_powers => k_is)
    (case k_is_powers => k_is)
    (case a_law_bag => k_is)
    (case l_law_bag => k_is)
    (case c_law_bag => k_is)
    (case k_law_bag => k_is)
    (case a_law_pick => k_is)
    (case l_law_pick => k_is)
    (case c_law_pick => k_is)
    (case k_law_pick => k_is)
    (case a_law_name => k_is)
    (case l_law_name => k_is)
    (case c_law_name => k_is)
    (case k_law_name => k_is)
    (case a_law_value => k_is)
    (case l_law_value => k_is)
    (case c_law_value => k_is)
    (case k_law_value => k_is)
    (case a_law_tables => k_is)
    (case l_law_tables => k_is)
    (case c_law_tables => k_is)
    (case k_law_tables => k_is)
    (case a_law_pool => k_is)
    (case l_law_pool => k_is)
    (case c_law_pool => k_is)
    (case k_law_pool => k_is)
    (case a_law_pattern => k_is)
    (case l_law_pattern => k_is)
    (case c_law_pattern => k_is)
    (case k_law_pattern => k_is)
    (case a_law_due => k_is)
    (case l_law_due => k_is)
    (case c_law_due => k_is)
    (case k_law_due => k_is)
    (case a_law_same => k_is)
    (case l_law_same => k_is)
    (case c_law_same => k_is)
    (case k_law_same => k_is)
    (case a_law_turned => k_is)
    (case l_law_turned => k_is)
    (case c_law_turned => k_is)
    (case k_law_turned => k_is)
    (case a_law_changed => k_is)
    (case l_law_changed => k_is)
    (case c_law_changed => k_is)
    (case k_law_changed => k_is)
    (case a_law_formed => k_is)
    (case l_law_formed => k_is)
    (case c_law_formed => k_is)
    (case k_law_formed => k_is)
    (case a_law_given => k_is)
    (case l_law_given => k_is)
    (case c_law_given => k_is)
    (case k_law_given => k_is)
    (case a_law_is => k_is)
    (case l_law_is => k_is)
    (case c_law_is => k_is)
    (case k_law_is => k_is)
    (case m_Pattern => k_is)
    (case a_Pattern_init => k_is)
    (case l_Pattern_init => k_is)
    (case c_Pattern_init => k_is)
    (case k_Pattern_init => k_is)
    (case i_Pattern_init => k_is)
    (case a_Pattern_eq => k_is)
    (case l_Pattern_eq => k_is)
    (case c_Pattern_eq => k_is)
    (case k_Pattern_eq => k_is)
    (case i_Pattern_eq => k_is)
    (case pg_Pattern => k_is)
    (case hd_Pattern => k_is)
    (case po_Pattern => k_is)
    (case sa_Pattern => k_is)
    (case mk_Pattern => k_is)
    (case kc_Pattern => k_is)
    (case na_Pattern_rows => k_is)
    (case na_Pattern_group => k_is)
    (case na_Pattern_powers => k_is)
    (case ha_Pattern => k_is)
    (case hn_Pattern => k_is)
    (case ht_Pattern => k_is)
    (case hm_Pattern => k_is)
    (case ne_Pattern => k_is)
    (case ob_Pattern => k_is)
    (case kt_Pattern_NoneType => (first | kit_is | rfl | kernel_rfl))
    (case nf_Pattern_NoneType => k_is)
    (case kt_Pattern_bool => (first | kit_is | rfl | kernel_rfl))
    (case nf_Pattern_bool => k_is)
    (case kt_Pattern_int => (first | kit_is | rfl | kernel_rfl))
    (case nf_Pattern_int => k_is)
    (case kt_Pattern_str => (first | kit_is | rfl | kernel_rfl))
    (case nf_Pattern_str => k_is)
    (case kt_Pattern_list => (first | kit_is | rfl | kernel_rfl))
    (case nf_Pattern_list => k_is)
    (case kt_Pattern_tuple => (first | kit_is | rfl | kernel_rfl))
    (case nf_Pattern_tuple => k_is)
    (case kt_Pattern_dict => (first | kit_is | rfl | kernel_rfl))
    (case nf_Pattern_dict => k_is)
    (case a_law => k_is)
    (case l_law => k_is)
    (case c_law => k_is)
    (case k_law => k_is)
