import PyProof.Rows.All
import Wide.All
import OpenK.AllK
import Wide.FinOn
import HandS.ForMost
import HandS.ForExc
import HandS.Codes
import HandS.IsInst
import HandS.Flow
import HandS.Walk
import HandS.Conv
import HandS.EndBits
import KE.GoesEnum
import HandS.ExcInit
import HandS.ExcField
import HandS.MakeKwOnly
import KE.KExcIs
import HandS.ExcIs
import HandS.TupAny
import HandS.More
import HandS.DictComp
import HandS.TryMany
import HandS.ExcOwn
import HandS.TupMul
import KE.RegKIsAll
import PySem.Challenge.RW_firstmet_k07_three_hundred_rows
set_option Elab.async false
set_option linter.all false
set_option maxRecDepth 100000
set_option maxHeartbeats 8000000
/-! Firstmet: short words over the hand layer: a def by its name, heaps that keep what stood, data. -/
namespace Fm
open PySem PySem.Spec PyProof.Rows L2
/-! ### a def of the top, by its name -/
def Dfn (K : PySem.W.Frag) (mg : Str → Option Value) (x : Str) (st : Stmt) (ps : List Str) : Prop :=
  ∃ f fd, Fun K x x st f fd ∧ mg x = some (.ref f) ∧ Binds K fd ps []
def Has (P : Program) (w : World) (K : PySem.W.Frag) (mg : Str → Option Value) (base : Heap) (CX : CXT) (x : Str) (ps : List Str) (k : Nat) (sp : Sp) : Prop :=
  ∃ f fd, FnOk P w K mg base CX k f fd ps sp ∧ mg x = some (.ref f) ∧ PySem.W.keepIn K (.ref f) = true ∧ Binds K fd ps []
section
variable {P : Program} {w : World} {K : PySem.W.Frag} {mg : Str → Option Value} {base : Heap}
theorem Dfn.has {x : Str} {st : Stmt} {N ps : List Str} {k : Nat} {sp : Sp} (D : Dfn K mg x st ps) (S : FnScope N ps (defScope st)) (len : ∀ vs H Q E, sp vs H Q E → vs.length = ps.length)
    (body : ∀ (f : Addr) (cdv : Value) (A : Around) (outer : List Env) (s : Shared) (H : Hp) (vs : List V) (Q : VK) (E : XK), Room k (A.deeper (envOfC x (defScope st) s.heap.objs.size f cdv)) → sp vs H Q E →
      ∃ t, PSs (cxOf CX0 P w K mg base N x (defScope st) f cdv A outer s H E).nox (defBody st) t ∧ t { nx := fun _ H' => Q .non H', rt := Q } (start N vs) H) :
    Has P w K mg base CX0 x ps (k + 1) sp := by
  obtain ⟨f, fd, F, g, b⟩ := D
  exact ⟨f, fd, F.ok S len (fun cdv A outer s H vs Q E => body f cdv A outer s H vs Q E), g, F.kp, b⟩
theorem Dfn.hasX {x : Str} {st : Stmt} {N ps : List Str} {k : Nat} {sp : Sp} (D : Dfn K mg x st ps) (S : FnScope N ps (defScope st)) (len : ∀ vs H Q E, sp vs H Q E → vs.length = ps.length)
    (body : ∀ (f : Addr) (cdv : Value) (A : Around) (outer : List Env) (s : Shared) (H : Hp) (vs : List V) (Q : VK) (E : XK), Room k (A.deeper (envOfC x (defScope st) s.heap.objs.size f cdv)) → sp vs H Q E →
      ∃ t, PSs (cxOf (L2.CX P w) P w K mg base N x (defScope st) f cdv A outer s H E) (defBody st) t ∧ t { nx := fun _ H' => Q .non H', rt := Q } (start N vs) H) :
    Has P w K mg base (L2.CX P w) x ps (k + 1) sp := by
  obtain ⟨f, fd, F, g, b⟩ := D
  exact ⟨f, fd, F.okX S len (fun cdv A outer s H vs Q E => body f cdv A outer s H vs Q E), g, F.kp, b⟩
theorem Has.mono {CX : CXT} {x : Str} {ps : List Str} {j k : Nat} {sp : Sp} (h : Has P w K mg base CX x ps j sp) (hj : j ≤ k) : Has P w K mg base CX x ps k sp := by
  obtain ⟨f, fd, F, r⟩ := h
  exact ⟨f, fd, F.mono hj, r⟩
theorem Has.imp {CX : CXT} {x : Str} {ps : List Str} {k : Nat} {sp sp' : Sp} (h : Has P w K mg base CX x ps k sp) (i : ∀ vs H Q E, sp' vs H Q E → sp vs H Q E) : Has P w K mg base CX x ps k sp' := by
  obtain ⟨f, fd, F, r⟩ := h
  exact ⟨f, fd, F.imp i, r⟩
end
/-- f(e, ..), f a def that raises nothing -/
theorem pe_has {X : Cx} {k : Nat} {x : Str} {ps : List Str} {sp : Sp} {e : Expr} {es : List Expr} {t : TA} {p pos : Pos} (h : Has X.prog X.w X.K X.mg X.base CX0 x ps k sp) (hr : Room k X.A) (ha : PA X (e :: es) t) (hg : Gl X x := by rfl)
    (hdb : (x == ("__debug__" : Str)) = false := by decide) (he : starEach (e :: es) X.env = (false, eval e X.env) :: starEach es X.env := by rfl) (hpl : (backTo pos (starEach es X.env)).any (·.1) = false := by rfl) :
    PE X (.Call (.Name x p) (e :: es) [] pos) (tCall sp [] E0 t) := by
  obtain ⟨f, fd, F, g, kp, b⟩ := h
  exact pe_call F hr hg g kp b .nil pass0 ha hdb he hpl
/-! ### heaps -/
/-- all that stood stands, but for what is at ms; tuples stand in any case -/
structure Kp (ms : List Addr) (H H' : Hp) : Prop where
  at_ : ∀ a o, H a = some o → a ∉ ms → H' a = some o
  tp : ∀ a xs, H a = some (.tup xs) → H' a = some (.tup xs)
theorem Kp.refl {ms : List Addr} (H : Hp) : Kp ms H H := ⟨fun _ _ h _ => h, fun _ _ h => h⟩
theorem Kp.trans {ms : List Addr} {H H1 H2 : Hp} (a : Kp ms H H1) (b : Kp ms H1 H2) : Kp ms H H2 := ⟨fun c o h n => b.at_ c o (a.at_ c o h n) n, fun c xs h => b.tp c xs (a.tp c xs h)⟩
theorem Kp.mono {ms ms' : List Addr} {H H' : Hp} (a : Kp ms H H') (h : ∀ x ∈ ms, x ∈ ms') : Kp ms' H H' := ⟨fun c o e n => a.at_ c o e fun z => n (h c z), a.tp⟩
theorem Kp.zero {ms : List Addr} {H H' : Hp} (a : Kp [] H H') : Kp ms H H' := a.mono fun _ h => nomatch h
theorem Kp.same {H H' : Hp} (a : Kp [] H H') : Same H H' := fun b o e => a.at_ b o e (fun z => nomatch z)
theorem Kp.new {ms : List Addr} {H : Hp} {p : Addr} {o : HO} (h : H p = none) : Kp ms H (upd H p o) :=
  ⟨fun _ _ e _ => (upd_ne (ne_of_none e h)).trans e, fun _ _ e => (upd_ne (ne_of_none e h)).trans e⟩
theorem Kp.snoc {ms : List Addr} {H H' : Hp} {p : Addr} {o : HO} (a : Kp ms H H') (h : H' p = none) : Kp ms H (upd H' p o) := a.trans (Kp.new h)
theorem Kp.late {ms : List Addr} {H H' : Hp} {p : Addr} {o : HO} (a : Kp ms H H') (h : H p = none) : Kp ms H (L2.upd H' p o) :=
  ⟨fun b u e n => (upd_ne (ne_of_none e h)).trans (a.at_ b u e n), fun b xs e => (upd_ne (ne_of_none e h)).trans (a.tp b xs e)⟩
theorem Kp.set {ms : List Addr} {H : Hp} {p : Addr} {o o' : HO} (e : H p = some o) (hn : ∀ xs, o ≠ .tup xs) (hm : p ∈ ms) : Kp ms H (upd H p o') :=
  ⟨fun b u h n => (upd_ne (fun z => n (by rw [z]; exact hm))).trans h, fun b xs h => (upd_ne (fun z => by rw [z, e] at h; exact hn xs (Option.some.inj h))).trans h⟩
theorem Kp.updL {ms : List Addr} {H : Hp} {p : Addr} {ys : List V} {o' : HO} (e : H p = some (.lst ys)) (hm : p ∈ ms) : Kp ms H (L2.upd H p o') := Kp.set e (fun _ z => by cases z) hm
theorem Kp.free {ms : List Addr} {H H' : Hp} {p : Addr} (a : Kp ms H H') (h : H' p = Option.none) (hm : ∀ x ∈ ms, ∃ o, H' x = some o) : H p = Option.none := by
  cases e : H p with
  | none => rfl
  | some o =>
    by_cases z : p ∈ ms
    · obtain ⟨o', h'⟩ := hm p z
      rw [h'] at h
      cases h
    · rw [a.at_ p o e z] at h
      cases h
theorem upd_upd {H : Hp} {a : Addr} {o o' : HO} : upd (upd H a o) a o' = upd H a o' := by
  funext b
  by_cases z : b = a
  · rw [z, upd_same, upd_same]
  · rw [upd_ne z, upd_ne z, upd_ne z]
theorem upd_comm {H : Hp} {a b : Addr} {o u : HO} (n : a ≠ b) : upd (upd H a o) b u = upd (upd H b u) a o := by
  funext c
  by_cases z : c = a
  · rw [z, upd_ne n, upd_same, upd_same]
  · by_cases y : c = b
    · rw [y, upd_same, upd_ne (Ne.symm n), upd_same]
    · rw [upd_ne y, upd_ne z, upd_ne z, upd_ne y]
/-! ### names of the built-ins -/
structure Bi (mg : Str → Option Value) : Prop where
  len : mg "len" = none
  list : mg "list" = none
  tuple : mg "tuple" = none
  isinstance : mg "isinstance" = none
  int : mg "int" = none
  range : mg "range" = none
  max : mg "max" = none
  all : mg "all" = none
  bool : mg "bool" = none
  dict : mg "dict" = none
  str : mg "str" = none
  enumerate : mg "enumerate" = none
/-! ### the bag of draws -/
structure Bag (H : Hp) (b c : Addr) : Prop where
  bg : ∃ i z m n k : Int, H b = some (.lst [.ref c, .int i, .int z, .int m, .int n, .int k]) ∧ 0 ≤ i ∧ 0 ≤ z
  cl : ∃ cs : List Int, H c = some (.lst (cs.map V.int)) ∧ cs.length ≤ 63
theorem Bag.ne {H : Hp} {b c : Addr} (B : Bag H b c) : c ≠ b := fun z => by
  obtain ⟨⟨i, z', m, n, k, h, _⟩, ⟨cs, h2, _⟩⟩ := B
  rw [z, h] at h2
  cases cs with
  | nil => cases h2
  | cons x r => cases h2
theorem Bag.keep {H H' : Hp} {b c : Addr} {ms : List Addr} (B : Bag H b c) (k : Kp ms H H') (hb : b ∉ ms) (hc : c ∉ ms) : Bag H' b c := by
  obtain ⟨⟨i, z', m, n, k', h, hi⟩, ⟨cs, h2, hl⟩⟩ := B
  exact ⟨⟨i, z', m, n, k', k.at_ _ _ h hb, hi⟩, ⟨cs, k.at_ _ _ h2 hc, hl⟩⟩
theorem Bag.keep0 {H H' : Hp} {b c : Addr} (B : Bag H b c) (k : Kp [] H H') : Bag H' b c := B.keep k (fun z => nomatch z) (fun z => nomatch z)
theorem Bag.someB {H : Hp} {b c : Addr} (B : Bag H b c) : ∃ o, H b = some o := let ⟨_, _, _, _, _, h, _⟩ := B.bg; ⟨_, h⟩
theorem Bag.someC {H : Hp} {b c : Addr} (B : Bag H b c) : ∃ o, H c = some o := let ⟨_, h, _⟩ := B.cl; ⟨_, h⟩
theorem Kp.freeB {H H' : Hp} {b c p : Addr} (a : Kp [b] H H') (B : Bag H' b c) (h : H' p = Option.none) : H p = Option.none :=
  a.free h fun x hx => by
    have e : x = b := by simpa using hx
    rw [e]; exact B.someB
end Fm

namespace Fm
open PySem PySem.Spec PyProof.Rows L2
def topS (i : Nat) : Stmt := PySem.Challenge.pw_firstmet_k07_three_hundred_rows.main.body.getD i (.Pass ⟨0, 0, 0, 0⟩)
abbrev s_BadShape_init : Stmt := inClass (topS 2) 0
abbrev N_BadShape_init : List Str := ["self", "at"]
theorem sc_BadShape_init : FnScope ["self", "at"] ["self", "at"] (defScope s_BadShape_init) := ⟨rfl, rfl, rfl, by decide +kernel, rfl, by decide +kernel, by decide +kernel⟩
abbrev s_BadName_init : Stmt := inClass (topS 3) 0
abbrev N_BadName_init : List Str := ["self", "value"]
theorem sc_BadName_init : FnScope ["self", "value"] ["self", "value"] (defScope s_BadName_init) := ⟨rfl, rfl, rfl, by decide +kernel, rfl, by decide +kernel, by decide +kernel⟩
abbrev s_BadStore_init : Stmt := inClass (topS 4) 0
abbrev N_BadStore_init : List Str := ["self", "value"]
theorem sc_BadStore_init : FnScope ["self", "value"] ["self", "value"] (defScope s_BadStore_init) := ⟨rfl, rfl, rfl, by decide +kernel, rfl, by decide +kernel, by decide +kernel⟩
abbrev s_BadRows_init : Stmt := inClass (topS 5) 0
abbrev N_BadRows_init : List Str := ["self", "value"]
theorem sc_BadRows_init : FnScope ["self", "value"] ["self", "value"] (defScope s_BadRows_init) := ⟨rfl, rfl, rfl, by decide +kernel, rfl, by decide +kernel, by decide +kernel⟩
abbrev s_BadIndex_init : Stmt := inClass (topS 6) 0
abbrev N_BadIndex_init : List Str := ["self", "value"]
theorem sc_BadIndex_init : FnScope ["self", "value"] ["self", "value"] (defScope s_BadIndex_init) := ⟨rfl, rfl, rfl, by decide +kernel, rfl, by decide +kernel, by decide +kernel⟩
abbrev s_is_row : Stmt := topS 12
abbrev N_is_row : List Str := ["thing"]
theorem sc_is_row : FnScope ["thing"] ["thing"] (defScope s_is_row) := ⟨rfl, rfl, rfl, by decide +kernel, rfl, by decide +kernel, by decide +kernel⟩
abbrev s_is_integer : Stmt := topS 13
abbrev N_is_integer : List Str := ["thing"]
theorem sc_is_integer : FnScope ["thing"] ["thing"] (defScope s_is_integer) := ⟨rfl, rfl, rfl, by decide +kernel, rfl, by decide +kernel, by decide +kernel⟩
abbrev s_is_value : Stmt := topS 14
abbrev N_is_value : List Str := ["thing"]
theorem sc_is_value : FnScope ["thing"] ["thing"] (defScope s_is_value) := ⟨rfl, rfl, rfl, by decide +kernel, rfl, by decide +kernel, by decide +kernel⟩
abbrev s_is_name : Stmt := topS 15
abbrev N_is_name : List Str := ["thing", "letter"]
theorem sc_is_name : FnScope ["thing", "letter"] ["thing"] (defScope s_is_name) := ⟨rfl, rfl, rfl, by decide +kernel, rfl, by decide +kernel, by decide +kernel⟩
abbrev s_are_names : Stmt := topS 16
abbrev N_are_names : List Str := ["thing", "least", "most", "at", "name"]
theorem sc_are_names : FnScope ["thing", "least", "most", "at", "name"] ["thing", "least", "most"] (defScope s_are_names) := ⟨rfl, rfl, rfl, by decide +kernel, rfl, by decide +kernel, by decide +kernel⟩
abbrev s_is_table : Stmt := topS 17
abbrev N_is_table : List Str := ["thing"]
theorem sc_is_table : FnScope ["thing"] ["thing"] (defScope s_is_table) := ⟨rfl, rfl, rfl, by decide +kernel, rfl, by decide +kernel, by decide +kernel⟩
abbrev s_are_values : Stmt := topS 18
abbrev N_are_values : List Str := ["thing", "many", "value"]
theorem sc_are_values : FnScope ["thing", "many", "value"] ["thing", "many"] (defScope s_are_values) := ⟨rfl, rfl, rfl, by decide +kernel, rfl, by decide +kernel, by decide +kernel⟩
abbrev s_Shape_init : Stmt := inClass (topS 19) 0
abbrev N_Shape_init : List Str := ["self", "tables", "names", "made", "at", "table"]
theorem sc_Shape_init : FnScope ["self", "tables", "names", "made", "at", "table"] ["self", "tables"] (defScope s_Shape_init) := ⟨rfl, rfl, rfl, by decide +kernel, rfl, by decide +kernel, by decide +kernel⟩
abbrev s_Shape_eq : Stmt := inClass (topS 19) 1
abbrev N_Shape_eq : List Str := ["self", "other"]
theorem sc_Shape_eq : FnScope ["self", "other"] ["self", "other"] (defScope s_Shape_eq) := ⟨rfl, rfl, rfl, by decide +kernel, rfl, by decide +kernel, by decide +kernel⟩
abbrev s_Shape_fields_of : Stmt := inClass (topS 19) 2
abbrev N_Shape_fields_of : List Str := ["self", "name", "table", "fields"]
theorem sc_Shape_fields_of : FnScope ["self", "name", "table", "fields"] ["self", "name"] (defScope s_Shape_fields_of) := ⟨rfl, rfl, rfl, by decide +kernel, rfl, by decide +kernel, by decide +kernel⟩
abbrev s_check_rows : Stmt := topS 20
abbrev N_check_rows : List Str := ["shape", "rows", "names", "key", "name", "fields", "at", "row"]
theorem sc_check_rows : FnScope ["shape", "rows", "names", "key", "name", "fields", "at", "row"] ["shape", "rows"] (defScope s_check_rows) := ⟨rfl, rfl, rfl, by decide +kernel, rfl, by decide +kernel, by decide +kernel⟩
abbrev s_Store_init : Stmt := inClass (topS 21) 0
abbrev N_Store_init : List Str := ["self", "shape", "rows", "many", "kept", "name", "fields", "row"]
theorem sc_Store_init : FnScope ["self", "shape", "rows", "many", "kept", "name", "fields", "row"] ["self", "shape", "rows"] (defScope s_Store_init) := ⟨rfl, rfl, rfl, by decide +kernel, rfl, by decide +kernel, by decide +kernel⟩
abbrev s_Store_eq : Stmt := inClass (topS 21) 1
abbrev N_Store_eq : List Str := ["self", "other"]
theorem sc_Store_eq : FnScope ["self", "other"] ["self", "other"] (defScope s_Store_eq) := ⟨rfl, rfl, rfl, by decide +kernel, rfl, by decide +kernel, by decide +kernel⟩
abbrev s_Store_rows_of : Stmt := inClass (topS 21) 2
abbrev N_Store_rows_of : List Str := ["self", "name"]
theorem sc_Store_rows_of : FnScope ["self", "name"] ["self", "name"] (defScope s_Store_rows_of) := ⟨rfl, rfl, rfl, by decide +kernel, rfl, by decide +kernel, by decide +kernel⟩
abbrev s_Store_with_row : Stmt := inClass (topS 21) 3
abbrev N_Store_with_row : List Str := ["self", "name", "row", "fields", "rows"]
theorem sc_Store_with_row : FnScope ["self", "name", "row", "fields", "rows"] ["self", "name", "row"] (defScope s_Store_with_row) := ⟨rfl, rfl, rfl, by decide +kernel, rfl, by decide +kernel, by decide +kernel⟩
abbrev s_Store_without_row : Stmt := inClass (topS 21) 4
abbrev N_Store_without_row : List Str := ["self", "name", "at", "rows"]
theorem sc_Store_without_row : FnScope ["self", "name", "at", "rows"] ["self", "name", "at"] (defScope s_Store_without_row) := ⟨rfl, rfl, rfl, by decide +kernel, rfl, by decide +kernel, by decide +kernel⟩
abbrev s__law_bag : Stmt := topS 23
abbrev N__law_bag : List Str := ["_law_script"]
theorem sc__law_bag : FnScope ["_law_script"] ["_law_script"] (defScope s__law_bag) := ⟨rfl, rfl, rfl, by decide +kernel, rfl, by decide +kernel, by decide +kernel⟩
abbrev s__law_pick : Stmt := topS 24
abbrev N__law_pick : List Str := ["_law_bag_here", "_law_many", "_law_cell", "_law_found", "_law_one"]
theorem sc__law_pick : FnScope ["_law_bag_here", "_law_many", "_law_cell", "_law_found", "_law_one"] ["_law_bag_here", "_law_many"] (defScope s__law_pick) := ⟨rfl, rfl, rfl, by decide +kernel, rfl, by decide +kernel, by decide +kernel⟩
abbrev s__law_name : Stmt := topS 25
abbrev N__law_name : List Str := ["_law_bag_here", "_law_taken", "_law_letters", "_law_word", "_law_stem", "_law_k"]
theorem sc__law_name : FnScope ["_law_bag_here", "_law_taken", "_law_letters", "_law_word", "_law_stem", "_law_k"] ["_law_bag_here", "_law_taken"] (defScope s__law_name) := ⟨rfl, rfl, rfl, by decide +kernel, rfl, by decide +kernel, by decide +kernel⟩
abbrev s__law_value : Stmt := topS 26
abbrev N__law_value : List Str := ["_law_bag_here", "_law_number"]
theorem sc__law_value : FnScope ["_law_bag_here", "_law_number"] ["_law_bag_here"] (defScope s__law_value) := ⟨rfl, rfl, rfl, by decide +kernel, rfl, by decide +kernel, by decide +kernel⟩
abbrev s__law_tables : Stmt := topS 27
abbrev N__law_tables : List Str := ["_law_bag_here", "_law_taken", "_law_tables_here", "_law_k", "_law_name_here", "_law_fields", "_law_j"]
theorem sc__law_tables : FnScope ["_law_bag_here", "_law_taken", "_law_tables_here", "_law_k", "_law_name_here", "_law_fields", "_law_j"] ["_law_bag_here"] (defScope s__law_tables) := ⟨rfl, rfl, rfl, by decide +kernel, rfl, by decide +kernel, by decide +kernel⟩
abbrev s__law_alike : Stmt := topS 28
abbrev N__law_alike : List Str := ["_law_one", "_law_other", "_law_k", "_law_key"]
theorem sc__law_alike : FnScope ["_law_one", "_law_other", "_law_k", "_law_key"] ["_law_one", "_law_other"] (defScope s__law_alike) := ⟨rfl, rfl, rfl, by decide +kernel, rfl, by decide +kernel, by decide +kernel⟩
abbrev s__law_made : Stmt := topS 29
abbrev N__law_made : List Str := ["_law_shape", "_law_rows", "_law_found", "_law_store", "e"]
theorem sc__law_made : FnScope ["_law_shape", "_law_rows", "_law_found", "_law_store", "e"] ["_law_shape", "_law_rows"] (defScope s__law_made) := ⟨rfl, rfl, rfl, by decide +kernel, rfl, by decide +kernel, by decide +kernel⟩
abbrev s__law_put : Stmt := topS 30
abbrev N__law_put : List Str := ["_law_store", "_law_name_here", "_law_row", "_law_found", "_law_made_here", "e"]
theorem sc__law_put : FnScope ["_law_store", "_law_name_here", "_law_row", "_law_found", "_law_made_here", "e"] ["_law_store", "_law_name_here", "_law_row"] (defScope s__law_put) := ⟨rfl, rfl, rfl, by decide +kernel, rfl, by decide +kernel, by decide +kernel⟩
abbrev s__law_tells : Stmt := topS 31
abbrev N__law_tells : List Str := ["_law_store", "_law_tables_here", "_law_rows", "_law_name_here", "_law_fields"]
theorem sc__law_tells : FnScope ["_law_store", "_law_tables_here", "_law_rows", "_law_name_here", "_law_fields"] ["_law_store", "_law_tables_here", "_law_rows"] (defScope s__law_tells) := ⟨rfl, rfl, rfl, by decide +kernel, rfl, by decide +kernel, by decide +kernel⟩
abbrev s__law_dealt : Stmt := topS 32
abbrev N__law_dealt : List Str := ["_law_bag_here", "_law_tables_here", "_law_many", "_law_rows", "_law_left", "_law_name_here", "_law_fields", "_law_count", "_law_some", "_law_field", "_law_k"]
theorem sc__law_dealt : FnScope ["_law_bag_here", "_law_tables_here", "_law_many", "_law_rows", "_law_left", "_law_name_here", "_law_fields", "_law_count", "_law_some", "_law_field", "_law_k"] ["_law_bag_here", "_law_tables_here", "_law_many"] (defScope s__law_dealt) := ⟨rfl, rfl, rfl, by decide +kernel, rfl, by decide +kernel, by decide +kernel⟩
abbrev s_law : Stmt := topS 33
abbrev N_law : List Str := ["_law_script", "_law_bag_here", "_law_tables_here", "_law_shape", "_law_many", "_law_rows", "_law_name_here", "_law_fields", "_law_at", "_law_wrong", "_law_found", "_law_store", "_law_row", "_law_k", "_law_field"]
theorem sc_law : FnScope ["_law_script", "_law_bag_here", "_law_tables_here", "_law_shape", "_law_many", "_law_rows", "_law_name_here", "_law_fields", "_law_at", "_law_wrong", "_law_found", "_law_store", "_law_row", "_law_k", "_law_field"] ["_law_script"] (defScope s_law) := ⟨rfl, rfl, rfl, by decide +kernel, rfl, by decide +kernel, by decide +kernel⟩
end Fm

namespace Fm
open PySem PySem.Spec PyProof.Rows L2
/-! ### bag and pick -/
def spBag (K : PySem.W.Frag) : Sp := fun vs H Q _ => ∃ (a : Addr) (ns : List Int), vs = [.ref a] ∧ SqL K H a (ns.map V.int) ∧
  ∀ b c H', Kp [] H H' → H b = none → H c = none → Bag H' b c → Q (.ref b) H'
def spPick : Sp := fun vs H Q _ => ∃ (b c : Addr) (many : Int), vs = [.ref b, .int many] ∧ Bag H b c ∧ 0 < many ∧ many < 1073741824 ∧
  ∀ (r : Int) (H' : Hp), 0 ≤ r → r < many → Bag H' b c → Kp [b] H H' → Q (.int r) H'
section
variable {P : Program} {w : World} {K : PySem.W.Frag} {mg : Str → Option Value} {base : Heap}
theorem ok_bag (B : Bi mg) (D : Dfn K mg "_law_bag" s__law_bag ["_law_script"]) : Has P w K mg base CX0 "_law_bag" ["_law_script"] 1 (spBag K) := by
  refine D.has sc__law_bag (fun vs H Q E h => ?_) (fun f cdv A outer s H vs Q E hr h => ?_)
  · obtain ⟨a, ns, rfl, _⟩ := h; rfl
  · obtain ⟨a, ns, rfl, hS, k⟩ := h
    refine ⟨_, pss_one (ps_ret (pe_lst (pa_cons (pe_callTy call_list_of (by rfl) B.list (by decide +kernel) (pa_cons (pe_slice sl_list (pv 0) po_none (po_some pe_int)) pa_nil)) (pa_cons pe_int (pa_cons pe_int (pa_cons pe_int (pa_cons pe_int (pa_cons pe_int pa_nil)))))))), ?_⟩
    refine ⟨_, rfl, 63, rfl, a, _, rfl, hS, fun p np => ?_⟩
    refine ⟨p, _, rfl, .inl (SqL.of upd_same), fun c nc => ?_⟩
    refine ⟨by show 6 ≤ sizeLine; decide, fun b nb => ?_⟩
    obtain ⟨cs, e, hl⟩ : ∃ cs : List Int, cutV (ns.map V.int) none (some 63) = cs.map V.int ∧ cs.length ≤ 63 := by
      refine ⟨ns.take (min 63 ns.length), ?_, ?_⟩
      · have e1 : HT.sIx (ns.map V.int).length (ns.map V.int).length (some 63) = min 63 (ns.map V.int).length := HT.sIx_nat _ _ 63
        unfold cutV
        rw [e1, HT.sIx_none, List.drop_zero, Nat.sub_zero, List.length_map, List.map_take]
      · rw [List.length_take]; omega
    have n1 : H c = none := by
      have := nc
      by_cases z : c = p
      · rw [z]; exact np
      · rw [upd_ne z] at nc; exact nc
    have cb : c ≠ b := fun z => by rw [← z, upd_same] at nb; cases nb
    refine k b c _ (((Kp.new np).snoc nc).snoc nb) ?_ n1 ⟨⟨0, 0, 0, 0, 0, upd_same, by decide, by decide⟩, ⟨cs, ?_, hl⟩⟩
    · by_cases z : b = c
      · rw [z]; exact n1
      · rw [upd_ne z] at nb
        by_cases y : b = p
        · rw [y]; exact np
        · rw [upd_ne y] at nb; exact nb
    · rw [upd_ne cb, upd_same, e]
theorem emod_lt' {a n : Int} (h : 0 < n) : a % n < n := Int.emod_lt_of_pos a h
theorem ok_pick (B : Bi mg) (D : Dfn K mg "_law_pick" s__law_pick ["_law_bag_here", "_law_many"]) : Has P w K mg base CX0 "_law_pick" ["_law_bag_here", "_law_many"] 1 spPick := by
  refine D.has sc__law_pick (fun vs H Q E h => ?_) (fun f cdv A outer s H vs Q E hr h => ?_)
  · obtain ⟨b, c, m, rfl, _⟩ := h; rfl
  · obtain ⟨b, c, many, rfl, BG, m0, m1, k⟩ := h
    obtain ⟨⟨i, z, m, n, q, hb, hi, hz⟩, ⟨cs, hc, hl⟩⟩ := id BG
    have ncb := BG.ne
    have hu := hu_of hr
    refine ⟨_, (pss_cons (ps_asg (pe_op op_add (pe_ix ix_list (pv 0) pe_int (fun _ _ => rfl)) pe_int) (pg_sub (pv 0) pe_int set_list))
  (C8.pss_cut (ps_if (PW.pt (pw_and (pt_cmpR op_eq (pe_ix ix_list (pv 0) pe_int (fun _ _ => rfl)) pe_int (nomark _)) (pw_and (pt_cmpR op_eq (pe_ix ix_list (pv 0) pe_int (fun _ _ => rfl)) pe_int (nomark _)) (pw_and1 (pt_cmpR op_lt (pe_ix ix_list (pv 0) pe_int (fun _ _ => rfl)) (pe_callB call_len (by rfl) B.len PySem.boot_len (pa_cons (pe_ix ix_list (pv 0) pe_int (fun _ _ => rfl)) pa_nil)) (nomark _))))))
  (pss_cons (ps_set (i := 2) sc__law_pick.nd rfl (by first | exact Or.inl rfl | exact Or.inr rfl) (pe_ix ix_list (pe_ix ix_list (pv 0) pe_int (fun _ _ => rfl)) (pe_ix ix_list (pv 0) pe_int (fun _ _ => rfl)) (fun _ _ => rfl)))
  (pss_cons (ps_asg (pe_op op_add (pe_ix ix_list (pv 0) pe_int (fun _ _ => rfl)) pe_int) (pg_sub (pv 0) pe_int set_list))
  (pss_one (ps_if (pt_cmpR op_ge (pv 2) (pe_op op_pow pe_int pe_int) (nomark _))
  (pss_one (ps_asg (pv 2) (pg_sub (pv 0) pe_int set_list)))
  (pss_cons (ps_asg (pe_op op_mod (pe_callTy call_int1 (by rfl) B.int (by decide +kernel) (pa_cons (pe_op op_add (pe_op op_add (pe_op op_mul (pe_ix ix_list (pv 0) pe_int (fun _ _ => rfl)) pe_int) (pv 2)) pe_int) pa_nil)) pe_int) (pg_sub (pv 0) pe_int set_list))
  (pss_one (ps_asg pe_int (pg_sub (pv 0) pe_int set_list))))))))
  pss_nil)
  (C8.pss_cut (ps_if (pt_cmpR op_gt (pe_ix ix_list (pv 0) pe_int (fun _ _ => rfl)) pe_int (nomark _))
  (pss_cons (ps_set (i := 3) sc__law_pick.nd rfl (by first | exact Or.inl rfl | exact Or.inr rfl) (pe_op op_mod (pe_callTy call_int1 (by rfl) B.int (by decide +kernel) (pa_cons (pe_ix ix_list (pv 0) pe_int (fun _ _ => rfl)) pa_nil)) (pv 1)))
  (pss_cons (ps_asg (pe_op op_fdiv (pe_ix ix_list (pv 0) pe_int (fun _ _ => rfl)) (pv 1)) (pg_sub (pv 0) pe_int set_list))
  (pss_one (ps_ret (pv 3)))))
  pss_nil)
  (pss_cons (ps_asg (pe_callB (call_max2 rfl) (by rfl) B.max (by decide +kernel) (pa_cons pe_int (pa_cons (pe_op op_sub (pe_ix ix_list (pv 0) pe_int (fun _ _ => rfl)) pe_int) pa_nil))) (pg_sub (pv 0) pe_int set_list))
  (pss_cons (ps_set (i := 4) sc__law_pick.nd rfl (by first | exact Or.inl rfl | exact Or.inr rfl) (pe_op op_mod (pe_callTy call_int1 (by rfl) B.int (by decide +kernel) (pa_cons (pe_op op_mul (pe_op op_add (pe_op op_add (pe_ix ix_list (pv 0) pe_int (fun _ _ => rfl)) (pe_op op_mul pe_int (pe_ix ix_list (pv 0) pe_int (fun _ _ => rfl)))) pe_int) pe_int) pa_nil)) pe_int))
  (pss_cons (ps_set (i := 4) sc__law_pick.nd rfl (by first | exact Or.inl rfl | exact Or.inr rfl) (pe_op op_mod (pe_callTy call_int1 (by rfl) B.int (by decide +kernel) (pa_cons (pe_op op_mul (pv 4) (pe_op op_add (pe_op op_fdiv (pv 4) pe_int) pe_int)) pa_nil)) pe_int))
  (pss_cons (ps_set (i := 4) sc__law_pick.nd rfl (by first | exact Or.inl rfl | exact Or.inr rfl) (pe_op op_mod (pe_callTy call_int1 (by rfl) B.int (by decide +kernel) (pa_cons (pe_op op_mul (pv 4) (pe_op op_add (pe_op op_fdiv (pv 4) pe_int) pe_int)) pa_nil)) pe_int))
  (pss_one (ps_ret (pe_op op_mod (pe_callTy call_int1 (by rfl) B.int (by decide +kernel) (pa_cons (pe_op op_fdiv (pv 4) pe_int) pa_nil)) (pv 1))))))))))), ?_⟩
    -- bag[4] = bag[4] + 1
    refine ⟨_, rfl, b, _, _, _, rfl, rfl, SqL.of hb, rfl, _, _, rfl, rfl, _, rfl, b, _, _, _, rfl, rfl, hb, rfl, ?_⟩
    -- the join behind the first if
    refine ⟨fun σ H' => ∃ (i z m n q : Int) (v : Option V), σ = [some (.ref b), some (.int many), v, none, none] ∧ 0 ≤ i ∧ 0 ≤ z ∧ H' = upd H b (.lst [.ref c, .int i, .int z, .int m, .int n, .int q]), ?_, ?_⟩
    · have h1 : ∀ L, (upd H b L) b = some L := fun L => upd_same
      have hcc : ∀ L, (upd H b L) c = some (.lst (cs.map V.int)) := fun L => by rw [upd_ne ncb]; exact hc
      have fin : ∀ (n : Int), ∃ (i' z' m' n' q' : Int) (v : Option V), ([some (.ref b), some (.int many), none, none, none] : L2.St) = [some (.ref b), some (.int many), v, none, none] ∧ 0 ≤ i' ∧ 0 ≤ z' ∧ upd H b (.lst [.ref c, .int i, .int z, .int m, .int n, .int q]) = upd H b (.lst [.ref c, .int i', .int z', .int m', .int n', .int q']) := fun n => ⟨i, z, m, n, q, none, rfl, hi, hz, rfl⟩
      refine ⟨_, rfl, b, _, _, _, rfl, rfl, SqL.of upd_same, rfl, rfl, _, rfl, ?_⟩
      refine ite2 (fun hz0 => ?_) (fun _ => fin _)
      refine ⟨_, rfl, b, _, _, _, rfl, rfl, SqL.of upd_same, rfl, rfl, _, rfl, ?_⟩
      refine ite2 (fun hq0 => ?_) (fun _ => fin _)
      refine ⟨_, rfl, b, _, _, _, rfl, rfl, SqL.of upd_same, rfl, _, rfl, b, _, _, _, rfl, rfl, SqL.of upd_same, rfl, _, _, rfl, .inl ⟨_, SqL.of (hcc _), rfl⟩, _, _, rfl, rfl, _, rfl, ?_⟩
      refine ite2 (fun hlt => ?_) (fun _ => fin _)
      rw [List.length_map] at hlt
      have hlt' : i < (cs.length : Int) := of_decide_eq_true hlt
      obtain ⟨y, hy⟩ : ∃ y, cs[i.toNat]? = some y := ⟨cs[i.toNat]'(by omega), List.getElem?_eq_getElem (by omega)⟩
      have hat : atI (cs.map V.int) i = some (V.int y) := by
        unfold atI ixN
        rw [List.length_map, if_pos hi, if_pos hlt']
        simp [hy]
      -- cell = bag[0][bag[1]]; bag[1] = bag[1] + 1
      refine ⟨_, rfl, b, _, _, _, rfl, rfl, SqL.of upd_same, rfl, _, rfl, b, _, _, _, rfl, rfl, SqL.of upd_same, rfl, c, _, _, _, rfl, rfl, SqL.of (hcc _), hat, ?_⟩
      refine ⟨_, rfl, b, _, _, _, rfl, rfl, SqL.of upd_same, rfl, _, _, rfl, rfl, _, rfl, b, _, _, _, rfl, rfl, upd_same, rfl, ?_⟩
      refine ⟨_, rfl, _, _, rfl, rfl, ⟨by decide, by decide, by decide⟩, _, _, rfl, rfl, _, rfl, ?_⟩
      refine ite2 (fun hbig => ?_) (fun _ => ?_)
      · refine ⟨_, rfl, _, rfl, b, _, _, _, rfl, rfl, upd_same, rfl, ?_⟩
        have hy0 : 0 ≤ y := by
          have := of_decide_eq_true hbig
          have e : (10 : Int) ^ (18 : Int).toNat = 1000000000000000000 := by decide
          rw [e] at this
          omega
        refine ⟨i + 1, y, m, n + 1, q, _, rfl, by omega, hy0, ?_⟩
        rw [upd_upd, upd_upd]
        rfl
      · refine ⟨_, rfl, b, _, _, _, rfl, rfl, SqL.of upd_same, rfl, _, _, rfl, rfl, .inr ⟨by decide, by decide⟩, _, rfl, _, _, rfl, rfl, _, _, rfl, rfl, .inl ⟨_, rfl, _, _, rfl, rfl, (by show (0 : Int) < 2147483647; decide), _, rfl, b, _, _, _, rfl, rfl, upd_same, rfl, ?_⟩⟩
        refine ⟨_, rfl, b, _, _, _, rfl, rfl, upd_same, rfl, ?_⟩
        refine ⟨i + 1, z, (m * 69621 + y + 12345) % 2147483647, n + 1, 6, _, rfl, by omega, hz, ?_⟩
        rw [upd_upd, upd_upd, upd_upd]
        rfl
    · clear hb hz hi hl
      rintro σ' H' ⟨i, z, m, n, q, v, rfl, hi, hz, rfl⟩
      have h1 : ∀ L, (upd H b L) b = some L := fun L => upd_same
      have kp : ∀ L, Kp [b] H (upd H b L) := fun L => by
        obtain ⟨_, _, _, _, _, hb, _⟩ := BG.bg
        exact Kp.updL hb (by simp)
      have bag : ∀ i z m n q : Int, 0 ≤ i → 0 ≤ z → Bag (upd H b (.lst [.ref c, .int i, .int z, .int m, .int n, .int q])) b c := fun i z m n q hi hz => by
        obtain ⟨cs, hc, hl⟩ := BG.cl
        exact ⟨⟨i, z, m, n, q, upd_same, hi, hz⟩, ⟨cs, by rw [upd_ne ncb]; exact hc, hl⟩⟩
      refine ⟨fun σ H' => σ = [some (.ref b), some (.int many), v, none, none] ∧ H' = upd H b (.lst [.ref c, .int i, .int z, .int m, .int n, .int q]), ?_, ?_⟩
      · refine ⟨_, rfl, b, _, _, _, rfl, rfl, SqL.of upd_same, rfl, _, _, rfl, rfl, _, rfl, ?_⟩
        refine ite2 (fun _ => ?_) (fun _ => ⟨rfl, rfl⟩)
        refine ⟨_, rfl, b, _, _, _, rfl, rfl, SqL.of upd_same, rfl, .inl ⟨_, rfl, _, rfl, _, _, rfl, rfl, m0, ?_⟩⟩
        refine ⟨_, rfl, b, _, _, _, rfl, rfl, SqL.of upd_same, rfl, _, rfl, _, _, rfl, rfl, ⟨m0, m1⟩, _, rfl, b, _, _, _, rfl, rfl, upd_same, rfl, ?_⟩
        refine ⟨_, rfl, ?_⟩
        rw [upd_upd]
        exact k _ _ (Int.emod_nonneg _ (by omega)) (Int.emod_lt_of_pos _ m0) (bag _ _ _ _ _ hi (Int.ediv_nonneg hz (by omega))) (kp _)
      · rintro σ' H' ⟨rfl, rfl⟩
        refine ⟨_, rfl, b, _, _, _, rfl, rfl, SqL.of upd_same, rfl, _, _, rfl, rfl, _, _, rfl, _, rfl, b, _, _, _, rfl, rfl, upd_same, rfl, ?_⟩
        rw [upd_upd]
        refine ⟨_, rfl, b, _, _, _, rfl, rfl, SqL.of upd_same, rfl, _, rfl, b, _, _, _, rfl, rfl, SqL.of upd_same, rfl, _, _, rfl, rfl, .inl ⟨by decide, by decide⟩, _, _, rfl, rfl, _, _, rfl, rfl, _, _, rfl, rfl, .inr ⟨by decide, by decide⟩, .inl ⟨_, rfl, _, _, rfl, rfl, (by show (0 : Int) < 2147483647; decide), ?_⟩⟩
        generalize hx : ((m + 7919 * n + 1) * 48271) % 2147483647 = x
        have x0 : 0 ≤ x := hx ▸ Int.emod_nonneg _ (by decide)
        have x1 : x < 2147483647 := hx ▸ Int.emod_lt_of_pos _ (by decide)
        refine ⟨_, rfl, _, rfl, _, _, rfl, rfl, ⟨by decide, by decide⟩, _, _, rfl, rfl, _, _, rfl, rfl, .inl ⟨by omega, by omega⟩, .inl ⟨_, rfl, _, _, rfl, rfl, (by show (0 : Int) < 2147483647; decide), ?_⟩⟩
        generalize hy : (x * (x / 1009 + 69621)) % 2147483647 = y
        have y0 : 0 ≤ y := hy ▸ Int.emod_nonneg _ (by decide)
        have y1 : y < 2147483647 := hy ▸ Int.emod_lt_of_pos _ (by decide)
        refine ⟨_, rfl, _, rfl, _, _, rfl, rfl, ⟨by decide, by decide⟩, _, _, rfl, rfl, _, _, rfl, rfl, .inl ⟨by omega, by omega⟩, .inl ⟨_, rfl, _, _, rfl, rfl, (by show (0 : Int) < 2147483399; decide), ?_⟩⟩
        refine ⟨_, rfl, _, _, rfl, rfl, ⟨by decide, by decide⟩, .inl ⟨_, rfl, _, rfl, _, _, rfl, rfl, m0, ?_⟩⟩
        exact k _ _ (Int.emod_nonneg _ (by omega)) (Int.emod_lt_of_pos _ m0) (bag _ _ _ _ _ hi hz) (kp _)
end
end Fm

namespace Fm
open PySem PySem.Spec PyProof.Rows L2
/-! ### names -/
/-- a text of 1 to 8 letters a to z -/
def IsNm (w : Str) : Prop := 1 ≤ w.length ∧ w.length ≤ 8 ∧ ∀ c ∈ w.cps.toList, 97 ≤ c ∧ c ≤ 122
def abc : Str := "abcdefghijklmnopqrstuvwxyz"
theorem abc_at : ∀ n : Nat, n < 26 → abc.cps.toList[n]? = some (97 + n) := by decide +kernel
theorem abc_size : abc.cps.toList.length = 26 := by decide +kernel
theorem abc_len : abc.length = 26 := by decide +kernel
theorem abc_ix {r : Int} (h0 : 0 ≤ r) (h1 : r < 26) : atI abc.cps.toList r = some (97 + r.toNat) := by
  unfold atI ixN
  rw [abc_size, if_pos h0, if_pos (by omega)]
  exact abc_at r.toNat (by omega)
theorem one_nm {c : Nat} (h : 97 ≤ c ∧ c ≤ 122) : ∀ d ∈ (⟨#[c]⟩ : Str).cps.toList, 97 ≤ d ∧ d ≤ 122 := by
  intro d hd
  have e : d = c := by simpa using hd
  rw [e]; exact h
theorem join_ones : ∀ cs : List Nat, Str.join ⟨#[]⟩ (cs.map fun c => (⟨#[c]⟩ : Str)) = ⟨cs.toArray⟩
  | [] => rfl
  | [c] => rfl
  | c :: d :: r => by
    have ih := join_ones (d :: r)
    show (⟨#[c]⟩ : Str) ++ ⟨#[]⟩ ++ Str.join ⟨#[]⟩ ((d :: r).map fun c => (⟨#[c]⟩ : Str)) = _
    rw [ih]
    refine ext_toList ?_
    show ((#[c] ++ #[]) ++ (d :: r).toArray).toList = _
    simp
theorem txt_join_ones (cs : List Nat) : PySem.Txt.join (Str.ofString "") (cs.map fun c => (⟨#[c]⟩ : Str)) = ⟨cs.toArray⟩ := by
  rw [show (Str.ofString "" : Str) = ⟨#[]⟩ by decide +kernel]
  rw [TL.join_eq]
  exact join_ones cs
theorem sum_ones : ∀ cs : List Nat, ((cs.map fun c => (⟨#[c]⟩ : Str)).map (·.length)).sum = cs.length
  | [] => rfl
  | c :: r => by
    have ih := sum_ones r
    show 1 + ((r.map fun c => (⟨#[c]⟩ : Str)).map (·.length)).sum = r.length + 1
    rw [ih]; omega
theorem inV_strs (w : Str) (ws : List Str) : inV (.str w) (ws.map V.str) = decide (w ∈ ws) := by
  unfold inV
  induction ws with
  | nil => rfl
  | cons a r ih =>
    rw [List.map_cons, List.any_cons, ih]
    show ((a == w) || decide (w ∈ r)) = _
    by_cases h : a = w
    · subst h; simp
    · have : ¬ w = a := fun z => h z.symm
      simp [h, this]
theorem flat_strs (ws : List Str) : (ws.map V.str).all flatV = true := by
  rw [List.all_eq_true]
  intro x hx
  obtain ⟨w, _, rfl⟩ := List.mem_map.mp hx
  rfl
theorem pigeon {α : Type} [DecidableEq α] : ∀ (l ws : List α), l.Nodup → (∀ x ∈ l, x ∈ ws) → l.length ≤ ws.length
  | [], _, _, _ => Nat.zero_le _
  | a :: l, ws, nd, h => by
    have ha : a ∈ ws := h a List.mem_cons_self
    have hn : a ∉ l := (List.nodup_cons.mp nd).1
    have ih := pigeon l (ws.erase a) (List.nodup_cons.mp nd).2 fun x hx => by
      have hxa : x ≠ a := fun z => hn (z ▸ hx)
      exact (List.mem_erase_of_ne hxa).mpr (h x (List.mem_cons_of_mem _ hx))
    have := List.length_erase_of_mem ha
    have hp : 0 < ws.length := List.length_pos_of_mem ha
    simp only [List.length_cons]
    omega
/-- the stem and one letter -/
def stemL (s : Str) (n : Nat) : Str := s ++ ⟨#[97 + n]⟩
theorem stemL_inj {s : Str} {m n : Nat} (h : stemL s m = stemL s n) : m = n := by
  have e : (stemL s m).cps.toList = (stemL s n).cps.toList := by rw [h]
  unfold stemL at e
  change (s.cps ++ #[97 + m]).toList = (s.cps ++ #[97 + n]).toList at e
  simp at e
  omega
theorem stems_nodup (s : Str) (n : Nat) : ((List.range n).map (stemL s)).Nodup := by
  rw [List.nodup_iff_pairwise_ne, List.pairwise_map]
  exact (List.nodup_range (n := n)).imp fun h z => h (stemL_inj z)
theorem stem_nm {s : Str} {n : Nat} (h7 : s.length ≤ 7) (hs : ∀ c ∈ s.cps.toList, 97 ≤ c ∧ c ≤ 122) (hn : n < 26) : IsNm (stemL s n) := by
  have hl : (stemL s n).length = s.length + 1 := by
    unfold stemL
    change (s.cps ++ #[97 + n]).size = s.cps.size + 1
    simp
  refine ⟨by omega, by omega, fun c hc => ?_⟩
  unfold stemL at hc
  change c ∈ (s.cps ++ #[97 + n]).toList at hc
  simp at hc
  rcases hc with hc | hc
  · exact hs c (by simpa using hc)
  · omega
theorem cut7 (w : Str) : (cutS w none (some 7)).length ≤ 7 ∧ ∀ c ∈ (cutS w none (some 7)).cps.toList, c ∈ w.cps.toList := by
  have e1 : HT.sIx w.length w.length (some 7) = min 7 w.length := HT.sIx_nat _ _ 7
  unfold cutS
  rw [e1, HT.sIx_none, List.drop_zero, Nat.sub_zero]
  refine ⟨?_, fun c hc => ?_⟩
  · change (List.take (min 7 w.length) w.cps.toList).toArray.size ≤ 7
    simp
    omega
  · exact List.mem_of_mem_take (by simpa using hc)
/-- the ways through the loop: while the words were taken, up to k letters -/
theorem all_taken {s : Str} {ws : List Str} (hw : ws.length ≤ 25) (h : ∀ j, j < 26 → stemL s j ∈ ws) : False := by
  have := pigeon ((List.range 26).map (stemL s)) ws (stems_nodup s 26) fun x hx => by
    obtain ⟨j, hj, rfl⟩ := List.mem_map.mp hx
    exact h j (List.mem_range.mp hj)
  rw [List.length_map, List.length_range] at this
  omega
theorem atI_of {α : Type} {xs : List α} {r : Int} {x : α} (h0 : 0 ≤ r) (h : xs[r.toNat]? = some x) : atI xs r = some x := by
  have hl : r.toNat < xs.length := (List.getElem?_eq_some_iff.mp h).1
  unfold atI ixN
  rw [if_pos h0, if_pos (by omega)]
  exact h
end Fm

namespace Fm
open PySem PySem.Spec PyProof.Rows L2
def spName : Sp := fun vs H Q _ => ∃ (b c t : Addr) (ws : List Str), vs = [.ref b, .ref t] ∧ Bag H b c ∧ H t = some (.lst (ws.map V.str)) ∧ t ≠ b ∧ t ≠ c ∧ ws.length ≤ 25 ∧
  ∀ (w : Str) (H' : Hp), IsNm w → w ∉ ws → Bag H' b c → H' t = some (.lst ((ws ++ [w]).map V.str)) → Kp [b, t] H H' → Q (.str w) H'
def menu8 : List Str := ["end", "put", "scan", "none", "of", "same", "table", "block"]
theorem menu8_nm : ∀ n : Nat, n < 8 → ∃ w, menu8[n]? = some w ∧ IsNm w := by
  intro n hn
  have : ∀ n : Fin 8, ∃ w, menu8[n.1]? = some w ∧ (1 ≤ w.length ∧ w.length ≤ 8 ∧ (w.cps.toList.all fun c => decide (97 ≤ c) && decide (c ≤ 122)) = true) := by
    intro n
    refine ⟨menu8[n.1]'(by have := n.2; show n.1 < 8; omega), by simp, ?_⟩
    revert n
    decide +kernel
  obtain ⟨w, h1, h2, h3, h4⟩ := this ⟨n, hn⟩
  refine ⟨w, h1, h2, h3, fun c hc => ?_⟩
  have := List.all_eq_true.mp h4 c hc
  simpa using this
section
variable {P : Program} {w : World} {K : PySem.W.Frag} {mg : Str → Option Value} {base : Heap}
theorem ok_name (B : Bi mg) (D : Dfn K mg "_law_name" s__law_name ["_law_bag_here", "_law_taken"]) (G_pick : Has P w K mg base CX0 "_law_pick" ["_law_bag_here", "_law_many"] 1 spPick) :
    Has P w K mg base CX0 "_law_name" ["_law_bag_here", "_law_taken"] 2 spName := by
  refine D.has sc__law_name (fun vs H Q E h => ?_) (fun f cdv A outer s H vs Q E hr h => ?_)
  · obtain ⟨b, c, t, ws, rfl, _⟩ := h; rfl
  · obtain ⟨b, c, t, ws, rfl, BG, ht, tb, tc, hw, k⟩ := h
    refine ⟨_, (pss_cons (ps_set (i := 2) sc__law_name.nd rfl (by first | exact Or.inl rfl | exact Or.inr rfl) pe_str)
  (C8.pss_cut (ps_if (pt_cmpR op_eq (pe_has G_pick hr (pa_cons (pv 0) (pa_cons pe_int pa_nil))) pe_int (nomark _))
  (pss_one (ps_set (i := 3) sc__law_name.nd rfl (by first | exact Or.inl rfl | exact Or.inr rfl) (pe_ix ix_list (pe_lst (pa_cons pe_str (pa_cons pe_str (pa_cons pe_str (pa_cons pe_str (pa_cons pe_str (pa_cons pe_str (pa_cons pe_str (pa_cons pe_str pa_nil))))))))) (pe_has G_pick hr (pa_cons (pv 0) (pa_cons pe_int pa_nil))) (fun _ _ => rfl))))
  (pss_one (ps_set (i := 3) sc__law_name.nd rfl (by first | exact Or.inl rfl | exact Or.inr rfl) (pe_join pe_str (pe_lc (own := [("_law_k", 5)]) (g := gName 5) (by rfl) sc__law_name.nd (pi_range1 rfl B.range (pa_cons (pe_op op_add pe_int (pe_has G_pick hr (pa_cons (pv 0) (pa_cons pe_int pa_nil)))) pa_nil)) (blkOk_by (own := [("_law_k", 5)]) (N := N__law_name) (sc := defScope s__law_name) (by decide +kernel)) (fun _ _ _ _ _ => (pg_name (i := 5) sc__law_name.nd rfl (by first | exact Or.inl rfl | exact Or.inr rfl))) (fun _ _ _ _ _ => pts_nil) (fun _ _ _ _ _ => (pe_ix ix_str (pv 2) (pe_has G_pick hr (pa_cons (pv 0) (pa_cons pe_int pa_nil))) (fun _ _ => rfl))))))))
  (pss_cons (ps_set (i := 4) sc__law_name.nd rfl (by first | exact Or.inl rfl | exact Or.inr rfl) (pe_slice sl_str (pv 3) po_none (po_some pe_int)))
  (C8.pss_cut (ps_for PassesOwn.never rfl (pi_range1 rfl B.range (pa_cons pe_int pa_nil)) (pg_name (i := 5) sc__law_name.nd rfl (by first | exact Or.inl rfl | exact Or.inr rfl))
  (pss_cons (ps_if (pt_cmpR op_notIn_seq (pv 3) (pv 1) (by rfl))
  (pss_one ps_break)
  pss_nil)
  (pss_one (ps_set (i := 3) sc__law_name.nd rfl (by first | exact Or.inl rfl | exact Or.inr rfl) (pe_op op_add_str (pv 4) (pe_ix ix_str (pv 2) (pv 5) (fun _ _ => rfl)))))))
  (pss_cons (ps_expr (pe_bm PySem.F.plainAttrs_list PySem.F.slot_list_append PySem.F.type_list_append mt_append (pv 1) (pa_cons (pv 3) pa_nil)))
  (pss_one (ps_ret (pv 3)))))))), ?_⟩
    -- the word drawn
    refine ⟨fun σ H' => ∃ w0 : Str, σ = [some (.ref b), some (.ref t), some (.str abc), some (.str w0), none, none] ∧ IsNm w0 ∧ Bag H' b c ∧ Kp [b] H H', ?_, ?_⟩
    · refine ⟨_, rfl, b, c, 12, rfl, BG, by decide, by decide, fun r H1 r0 r1 B1 k1 => ?_⟩
      refine ⟨rfl, _, rfl, ?_⟩
      refine ite2 (fun _ => ?_) (fun _ => ?_)
      · refine ⟨by show 8 ≤ sizeLine; decide, fun p np => ?_⟩
        have k2 := k1.snoc (o := .lst (menu8.map V.str)) np
        refine ⟨_, rfl, b, c, 8, rfl, B1.keep0 (Kp.new np), by decide, by decide, fun r H2 r0 r1 B2 k3 => ?_⟩
        have np' : H2 p = some (.lst (menu8.map V.str)) := k3.at_ p _ upd_same (fun z => by
          have e : p = b := by simpa using z
          obtain ⟨o, ho⟩ := B1.someB
          rw [← e, np] at ho; cases ho)
        obtain ⟨x, hx, nx⟩ := menu8_nm r.toNat (by omega)
        refine ⟨p, _, r, .str x, rfl, rfl, SqL.of np', atI_of r0 (by rw [List.getElem?_map, hx]; rfl), ?_⟩
        exact ⟨x, rfl, nx, B2, k2.trans k3⟩
      · refine ⟨⟨_, rfl⟩, ?_⟩
        refine ⟨_, rfl, b, c, 8, rfl, B1, by decide, by decide, fun r H2 r0 r1 B2 k2 => ?_⟩
        refine ⟨_, _, rfl, rfl, 1 + r, rfl, by omega, by omega, fun D hD => ?_⟩
        have kD := (k1.trans k2).snoc (o := .lst []) hD
        have Db : D ≠ b := fun z => by
          obtain ⟨o, ho⟩ := B2.someB
          rw [← z, hD] at ho; cases ho
        have Dc : D ≠ c := fun z => by
          obtain ⟨o, ho⟩ := B2.someC
          rw [← z, hD] at ho; cases ho
        have hDH : H D = none := by
          cases e : H D with
          | none => rfl
          | some o => rw [(k1.trans k2).at_ D o e (by simpa using Db)] at hD; cases hD
        refine lc_range (lo := 0) (n := (1 + r).toNat) (fun i H' => ∃ cs : List Nat, cs.length = i ∧ (∀ x ∈ cs, 97 ≤ x ∧ x ≤ 122) ∧ H' D = some (.lst (cs.map fun x => V.str ⟨#[x]⟩)) ∧ Bag H' b c ∧ Kp [b] H H')
          ⟨[], rfl, (fun x h => nomatch h), upd_same, B2.keep0 (Kp.new hD), kD⟩ ?_ ?_
        · rintro i H3 hi ⟨cs, hl, hc, h3, B3, k3⟩
          refine ⟨rfl, _, rfl, _, rfl, b, c, 26, rfl, B3, by decide, by decide, fun q H4 q0 q1 B4 k4 => ?_⟩
          have h4 : H4 D = some (.lst (cs.map fun x => V.str ⟨#[x]⟩)) := k4.at_ D _ h3 (by simpa using Db)
          refine ⟨abc, q, _, rfl, rfl, by rw [abc_len]; decide, abc_ix q0 q1, _, h4, ?_, ?_⟩
          · rw [List.length_map]; exact small1000 (by omega)
          · refine ⟨cs ++ [97 + q.toNat], by simp [hl], fun x hx => ?_, by rw [upd_same]; simp, ?_, (k3.trans k4).late hDH⟩
            · rcases List.mem_append.mp hx with h | h
              · exact hc x h
              · have e : x = 97 + q.toNat := by simpa using h
                omega
            · exact B4.keep (ms := [D]) (Kp.updL h4 (by simp)) (by simpa using Ne.symm Db) (by simpa using Ne.symm Dc)
        · rintro H3 ⟨cs, hl, hc, h3, B3, k3⟩
          refine ⟨_, D, cs.map fun x => (⟨#[x]⟩ : Str), rfl, rfl, .inl (SqL.of (by rw [h3, List.map_map]; rfl)), ?_, ?_⟩
          · rw [sum_ones, List.length_map, show (Str.ofString "").length = 0 by decide +kernel]
            omega
          · refine ⟨_, rfl, ?_, B3, k3⟩
            rw [txt_join_ones]
            refine ⟨?_, ?_, fun x hx => hc x (by simpa using hx)⟩
            · show 1 ≤ cs.toArray.size
              simp; omega
            · show cs.toArray.size ≤ 8
              simp; omega
    · rintro σ' H1 ⟨w0, rfl, n0, B1, k1⟩
      have ht1 : H1 t = some (.lst (ws.map V.str)) := k1.at_ t _ ht (by simpa using tb)
      obtain ⟨s7, sn⟩ := cut7 w0
      generalize hst : cutS w0 none (some 7) = st at s7 sn
      have sn' : ∀ c ∈ st.cps.toList, 97 ≤ c ∧ c ≤ 122 := fun c hc => n0.2.2 c (sn c hc)
      refine ⟨_, rfl, 7, rfl, w0, rfl, Nat.le_trans n0.2.1 (by decide), ?_⟩
      show C8.tCut _ _ _ _ _
      refine ⟨fun σ H' => ∃ (x : Str) (v : Option V), σ = [some (.ref b), some (.ref t), some (.str abc), some (.str x), some (.str st), v] ∧ IsNm x ∧ x ∉ ws ∧ H' = H1, ?_, ?_⟩
      · refine ⟨26, rfl, by decide, by decide, ?_⟩
        refine for_range (lo := 0) (n := 26) (fun i σ H' => ∃ (x : Str) (v : Option V), σ = [some (.ref b), some (.ref t), some (.str abc), some (.str x), some (.str st), v] ∧ IsNm x ∧ H' = H1 ∧ (∀ j, j + 1 < i → stemL st j ∈ ws) ∧ (0 < i → x = stemL st (i - 1)))
          ⟨w0, none, by rw [← hst]; rfl, n0, rfl, fun j h => absurd h (by omega), fun h => absurd h (by omega)⟩ ?_ ?_
        · rintro i σ H' hi ⟨x, v, rfl, nx, rfl, hj, hx⟩
          refine ⟨_, rfl, _, rfl, t, _, rfl, .inl (SqL.of ht1), rfl, flat_strs ws, _, rfl, ?_⟩
          rw [inV_strs]
          by_cases hm : x ∈ ws
          · rw [decide_eq_true hm]
            refine iteF ?_
            refine ⟨_, rfl, _, rfl, _, rfl, abc, _, _, rfl, rfl, by rw [abc_len]; decide, abc_ix (r := 0 + (i : Int)) (by omega) (by omega), _, _, rfl, rfl, ?_, ?_⟩
            · show st.length + 1 ≤ sizeLine
              exact Nat.le_trans (Nat.succ_le_succ s7) (by decide)
            · refine ⟨stemL st i, some (.int (0 + (i : Int))), ?_, stem_nm s7 sn' (by omega), rfl, fun j h => ?_, fun _ => rfl⟩
              · have e : (0 + (i : Int)).toNat = i := by omega
                rw [e]
                rfl
              · by_cases e : j + 1 < i
                · exact hj j e
                · have e2 : j = i - 1 := by omega
                  rw [e2, ← hx (by omega)]
                  exact hm
          · rw [decide_eq_false hm]
            refine iteT ?_
            exact ⟨x, _, rfl, nx, hm, rfl⟩
        · rintro σ H' ⟨x, v, rfl, nx, rfl, hj, hx⟩
          refine ⟨x, v, rfl, nx, fun hm => all_taken (s := st) hw fun j h => ?_, rfl⟩
          by_cases e : j + 1 < 26
          · exact hj j e
          · have e2 : j = 25 := by omega
            have := hx (by decide)
            rw [e2, ← this]
            exact hm
      · rintro σ' H' ⟨x, v, rfl, nx, nm, rfl⟩
        refine ⟨_, rfl, .inl ⟨rfl, _, SqL.of ht1⟩, _, rfl, t, _, _, rfl, rfl, ht1, by rw [List.length_map]; exact small1000 (by omega), ?_⟩
        refine ⟨_, rfl, ?_⟩
        refine k x _ nx nm (B1.keep (ms := [t]) (Kp.updL ht1 (by simp)) (by simpa using Ne.symm tb) (by simpa using Ne.symm tc)) (by rw [upd_same]; simp) ?_
        exact (k1.mono (by simp)).trans (Kp.updL ht1 (by simp))
end
end Fm

namespace Fm
open PySem PySem.Spec PyProof.Rows L2
/-! ### data in the heap: v tells d, at most n deep; with q = true no dict in it is locked -/
def keyD : Key → PyData
  | .inl i => .int i
  | .inr x => .str x
def DkAt (q : Bool) (H : Hp) (a : Addr) (kvs : List (Key × V)) : Prop := if q = true then H a = some (.dK kvs) else Rd H a (.dK kvs)
mutual
inductive Dt (S : Addr → Prop) (q : Bool) (H : Hp) : Nat → V → PyData → Prop
  | non {n : Nat} : Dt S q H n .non .none
  | bl {n : Nat} (b : Bool) : Dt S q H n (.bl b) (.bool b)
  | int {n : Nat} (i : Int) : Dt S q H n (.int i) (.int i)
  | str {n : Nat} (x : Str) (h : x.length ≤ 1000000) : Dt S q H n (.str x) (.str x)
  | lst {n : Nat} {a : Addr} {xs : List V} {ds : List PyData} : Rd H a (.lst xs) → xs.length ≤ 1000000 ∧ S a → DtAll S q H n xs ds → Dt S q H (n + 1) (.ref a) (.list ds)
  | tup {n : Nat} {a : Addr} {xs : List V} {ds : List PyData} : H a = some (.tup xs) → xs.length ≤ 1000000 ∧ S a → DtAll S q H n xs ds → Dt S q H (n + 1) (.ref a) (.tuple ds)
  | dic {n : Nat} {a : Addr} {kvs : List (Key × V)} {ds : List (PyData × PyData)} : DkAt q H a kvs → (kvs.length ≤ 1000000 ∧ (kvs.map (·.1)).Nodup) ∧ S a → DtKV S q H n kvs ds → Dt S q H (n + 1) (.ref a) (.dict ds)
inductive DtAll (S : Addr → Prop) (q : Bool) (H : Hp) : Nat → List V → List PyData → Prop
  | nil {n : Nat} : DtAll S q H n [] []
  | cons {n : Nat} {v : V} {vs : List V} {d : PyData} {ds : List PyData} : Dt S q H n v d → DtAll S q H n vs ds → DtAll S q H n (v :: vs) (d :: ds)
inductive DtKV (S : Addr → Prop) (q : Bool) (H : Hp) : Nat → List (Key × V) → List (PyData × PyData) → Prop
  | nil {n : Nat} : DtKV S q H n [] []
  | cons {n : Nat} {k : Key} {v : V} {vs : List (Key × V)} {d : PyData} {ds : List (PyData × PyData)} : Dt S q H n v d → DtKV S q H n vs ds → DtKV S q H n ((k, v) :: vs) ((keyD k, d) :: ds)
end
/-- what stood stands, or is locked now -/
def Sm (H H' : Hp) : Prop := ∀ a o, H a = some o → H' a = some o ∨ (∃ ob, H' a = some (.frz ob o)) ∧ (∀ ob u, o ≠ .frz ob u) ∧ ∀ xs, o ≠ .tup xs
theorem Sm.rd {H H' : Hp} (s : Sm H H') {a : Addr} {u : HO} (r : Rd H a u) : Rd H' a u := by
  rcases r with r | ⟨o, r⟩
  · rcases s a u r with h | ⟨⟨ob, h⟩, _⟩
    · exact .inl h
    · exact .inr ⟨ob, h⟩
  · rcases s a _ r with h | ⟨_, h⟩
    · exact .inr ⟨o, h⟩
    · exact absurd rfl (h.1 o u)
theorem Sm.tup {H H' : Hp} (s : Sm H H') {a : Addr} {xs : List V} (r : H a = some (.tup xs)) : H' a = some (.tup xs) := by
  rcases s a _ r with h | ⟨_, _, h⟩
  · exact h
  · exact absurd rfl (h xs)
theorem Kp.sm {H H' : Hp} (k : Kp [] H H') : Sm H H' := fun a o e => .inl (k.at_ a o e (fun z => nomatch z))
theorem Sm.lock {H : Hp} {d : Addr} {u : HO} {od : Obj} (e : H d = some u) (hu : ∀ ob x, u ≠ .frz ob x) (hv : ∀ xs, u ≠ .tup xs) : Sm H (upd H d (.frz od u)) := fun a o h => by
  by_cases z : a = d
  · rw [z, e] at h
    cases h
    exact .inr ⟨⟨od, by rw [z, upd_same]⟩, hu, hv⟩
  · exact .inl (by rw [upd_ne z]; exact h)
mutual
theorem Dt.sm {S : Addr → Prop} {H H' : Hp} (s : Sm H H') : ∀ {n : Nat} {v : V} {d : PyData}, Dt S false H n v d → Dt S false H' n v d
  | _, _, _, .non => .non
  | _, _, _, .bl b => .bl b
  | _, _, _, .int b => .int b
  | _, _, _, .str b h => .str b h
  | _, _, _, .lst r l a => .lst (s.rd r) l (DtAll.sm s a)
  | _, _, _, .tup r l a => .tup (s.tup r) l (DtAll.sm s a)
  | _, _, _, .dic r l a => .dic (show DkAt false H' _ _ from s.rd (show Rd H _ _ from r)) l (DtKV.sm s a)
theorem DtAll.sm {S : Addr → Prop} {H H' : Hp} (s : Sm H H') : ∀ {n : Nat} {v : List V} {d : List PyData}, DtAll S false H n v d → DtAll S false H' n v d
  | _, _, _, .nil => .nil
  | _, _, _, .cons a b => .cons (Dt.sm s a) (DtAll.sm s b)
theorem DtKV.sm {S : Addr → Prop} {H H' : Hp} (s : Sm H H') : ∀ {n : Nat} {v : List (Key × V)} {d : List (PyData × PyData)}, DtKV S false H n v d → DtKV S false H' n v d
  | _, _, _, .nil => .nil
  | _, _, _, .cons a b => .cons (Dt.sm s a) (DtKV.sm s b)
end
theorem Kp.rd {ms : List Addr} {H H' : Hp} {a : Addr} {u : HO} (k : Kp ms H H') (hm : a ∉ ms) (r : Rd H a u) : Rd H' a u := by
  rcases r with r | ⟨o, r⟩
  · exact .inl (k.at_ _ _ r hm)
  · exact .inr ⟨o, k.at_ _ _ r hm⟩
theorem rd_keep {H H' : Hp} {a : Addr} {u : HO} (s : ∀ o, H a = some o → H' a = some o) (r : Rd H a u) : Rd H' a u := by
  rcases r with r | ⟨o, r⟩
  · exact .inl (s _ r)
  · exact .inr ⟨o, s _ r⟩
mutual
theorem Dt.keep {S : Addr → Prop} {q : Bool} {H H' : Hp} (s : Kp [] H H') : ∀ {n : Nat} {v : V} {d : PyData}, Dt S q H n v d → Dt S q H' n v d
  | _, _, _, .non => .non
  | _, _, _, .bl b => .bl b
  | _, _, _, .int b => .int b
  | _, _, _, .str b h => .str b h
  | _, _, _, .lst r l a => .lst (s.rd (fun z => nomatch z) r) l (DtAll.keep s a)
  | _, _, _, .tup r l a => .tup (s.tp _ _ r) l (DtAll.keep s a)
  | _, _, _, .dic r l a => .dic (by
      unfold DkAt at r ⊢
      cases q with
      | true => exact s.at_ _ _ r (fun z => nomatch z)
      | false => exact s.rd (fun z => nomatch z) r) l (DtKV.keep s a)
theorem DtAll.keep {S : Addr → Prop} {q : Bool} {H H' : Hp} (s : Kp [] H H') : ∀ {n : Nat} {v : List V} {d : List PyData}, DtAll S q H n v d → DtAll S q H' n v d
  | _, _, _, .nil => .nil
  | _, _, _, .cons a b => .cons (Dt.keep s a) (DtAll.keep s b)
theorem DtKV.keep {S : Addr → Prop} {q : Bool} {H H' : Hp} (s : Kp [] H H') : ∀ {n : Nat} {v : List (Key × V)} {d : List (PyData × PyData)}, DtKV S q H n v d → DtKV S q H' n v d
  | _, _, _, .nil => .nil
  | _, _, _, .cons a b => .cons (Dt.keep s a) (DtKV.keep s b)
end
mutual
theorem Dt.keepS {S S' : Addr → Prop} {q : Bool} {H H' : Hp} (s : ∀ a o, S a → H a = some o → H' a = some o) (i : ∀ a, S a → S' a) : ∀ {n : Nat} {v : V} {d : PyData}, Dt S q H n v d → Dt S' q H' n v d
  | _, _, _, .non => .non
  | _, _, _, .bl b => .bl b
  | _, _, _, .int b => .int b
  | _, _, _, .str b h => .str b h
  | _, _, _, .lst r l a => .lst (rd_keep (fun o e => s _ o l.2 e) r) ⟨l.1, i _ l.2⟩ (DtAll.keepS s i a)
  | _, _, _, .tup r l a => .tup (s _ _ l.2 r) ⟨l.1, i _ l.2⟩ (DtAll.keepS s i a)
  | _, _, _, .dic r l a => .dic (by
      unfold DkAt at r ⊢
      cases q with
      | true => exact s _ _ l.2 r
      | false => exact rd_keep (fun o e => s _ o l.2 e) r) ⟨l.1, i _ l.2⟩ (DtKV.keepS s i a)
theorem DtAll.keepS {S S' : Addr → Prop} {q : Bool} {H H' : Hp} (s : ∀ a o, S a → H a = some o → H' a = some o) (i : ∀ a, S a → S' a) : ∀ {n : Nat} {v : List V} {d : List PyData}, DtAll S q H n v d → DtAll S' q H' n v d
  | _, _, _, .nil => .nil
  | _, _, _, .cons a b => .cons (Dt.keepS s i a) (DtAll.keepS s i b)
theorem DtKV.keepS {S S' : Addr → Prop} {q : Bool} {H H' : Hp} (s : ∀ a o, S a → H a = some o → H' a = some o) (i : ∀ a, S a → S' a) : ∀ {n : Nat} {v : List (Key × V)} {d : List (PyData × PyData)}, DtKV S q H n v d → DtKV S' q H' n v d
  | _, _, _, .nil => .nil
  | _, _, _, .cons a b => .cons (Dt.keepS s i a) (DtKV.keepS s i b)
end
theorem Dt.imp {S S' : Addr → Prop} {q : Bool} {H : Hp} {n : Nat} {v : V} {d : PyData} (h : Dt S q H n v d) (i : ∀ a, S a → S' a) : Dt S' q H n v d := h.keepS (fun _ _ _ e => e) i
theorem DtAll.imp {S S' : Addr → Prop} {q : Bool} {H : Hp} {n : Nat} {v : List V} {d : List PyData} (h : DtAll S q H n v d) (i : ∀ a, S a → S' a) : DtAll S' q H n v d := h.keepS (fun _ _ _ e => e) i
mutual
theorem Dt.weak {S : Addr → Prop} {H : Hp} : ∀ {q : Bool} {n : Nat} {v : V} {d : PyData}, Dt S q H n v d → Dt S false H n v d
  | _, _, _, _, .non => .non
  | _, _, _, _, .bl b => .bl b
  | _, _, _, _, .int b => .int b
  | _, _, _, _, .str b h => .str b h
  | _, _, _, _, .lst r l a => .lst r l (DtAll.weak a)
  | _, _, _, _, .tup r l a => .tup r l (DtAll.weak a)
  | q, _, _, _, .dic r l a => .dic (by
      unfold DkAt at r ⊢
      cases q with
      | true => exact .inl r
      | false => exact r) l (DtKV.weak a)
theorem DtAll.weak {S : Addr → Prop} {H : Hp} : ∀ {q : Bool} {n : Nat} {v : List V} {d : List PyData}, DtAll S q H n v d → DtAll S false H n v d
  | _, _, _, _, .nil => .nil
  | _, _, _, _, .cons a b => .cons (Dt.weak a) (DtAll.weak b)
theorem DtKV.weak {S : Addr → Prop} {H : Hp} : ∀ {q : Bool} {n : Nat} {v : List (Key × V)} {d : List (PyData × PyData)}, DtKV S q H n v d → DtKV S false H n v d
  | _, _, _, _, .nil => .nil
  | _, _, _, _, .cons a b => .cons (Dt.weak a) (DtKV.weak b)
end
mutual
theorem Dt.mono {S : Addr → Prop} {q : Bool} {H : Hp} : ∀ {n m : Nat} {v : V} {d : PyData}, n ≤ m → Dt S q H n v d → Dt S q H m v d
  | _, _, _, _, _, .non => .non
  | _, _, _, _, _, .bl b => .bl b
  | _, _, _, _, _, .int b => .int b
  | _, _, _, _, _, .str b h => .str b h
  | n + 1, m + 1, _, _, h, .lst r l a => .lst r l (DtAll.mono (Nat.le_of_succ_le_succ h) a)
  | n + 1, m + 1, _, _, h, .tup r l a => .tup r l (DtAll.mono (Nat.le_of_succ_le_succ h) a)
  | n + 1, m + 1, _, _, h, .dic r l a => .dic r l (DtKV.mono (Nat.le_of_succ_le_succ h) a)
theorem DtAll.mono {S : Addr → Prop} {q : Bool} {H : Hp} : ∀ {n m : Nat} {v : List V} {d : List PyData}, n ≤ m → DtAll S q H n v d → DtAll S q H m v d
  | _, _, _, _, _, .nil => .nil
  | _, _, _, _, h, .cons a b => .cons (Dt.mono h a) (DtAll.mono h b)
theorem DtKV.mono {S : Addr → Prop} {q : Bool} {H : Hp} : ∀ {n m : Nat} {v : List (Key × V)} {d : List (PyData × PyData)}, n ≤ m → DtKV S q H n v d → DtKV S q H m v d
  | _, _, _, _, _, .nil => .nil
  | _, _, _, _, h, .cons a b => .cons (Dt.mono h a) (DtKV.mono h b)
end
theorem rd_fun {H : Hp} {a : Addr} {u u' : HO} (r : Rd H a u) (r' : Rd H a u') (h : ∀ ob x, u ≠ .frz ob x) (h' : ∀ ob x, u' ≠ .frz ob x) : u = u' := by
  rcases r with r | ⟨o, r⟩ <;> rcases r' with r' | ⟨o', r'⟩ <;> rw [r] at r' <;> cases r'
  · rfl
  · exact absurd rfl (h _ _)
  · exact absurd rfl (h' _ _)
  · rfl
theorem keyD_inj {k k' : Key} (h : keyD k = keyD k') : k = k' := by
  cases k <;> cases k' <;> cases h <;> rfl
mutual
theorem Dt.det {S S' : Addr → Prop} {H : Hp} : ∀ {n m : Nat} {v : V} {d e : PyData}, Dt S false H n v d → Dt S' false H m v e → d = e
  | _, _, _, _, _, .non, .non => rfl
  | _, _, _, _, _, .bl _, .bl _ => rfl
  | _, _, _, _, _, .int _, .int _ => rfl
  | _, _, _, _, _, .str _ _, .str _ _ => rfl
  | _, _, _, _, _, .lst r l a, h => by
    cases h with
    | lst r' l' a' =>
      have e := rd_fun r r' (fun _ _ z => by cases z) (fun _ _ z => by cases z)
      cases e
      rw [DtAll.det a a']
    | tup r' l' a' =>
      have e := rd_fun r (.inl r') (fun _ _ z => by cases z) (fun _ _ z => by cases z)
      cases e
    | dic r' l' a' =>
      have e := rd_fun r (show Rd H _ _ from r') (fun _ _ z => by cases z) (fun _ _ z => by cases z)
      cases e
  | _, _, _, _, _, .tup r l a, h => by
    cases h with
    | lst r' l' a' =>
      have e := rd_fun (.inl r) r' (fun _ _ z => by cases z) (fun _ _ z => by cases z)
      cases e
    | tup r' l' a' =>
      have e := rd_fun (.inl r) (.inl r') (fun _ _ z => by cases z) (fun _ _ z => by cases z)
      cases e
      rw [DtAll.det a a']
    | dic r' l' a' =>
      have e := rd_fun (.inl r) (show Rd H _ _ from r') (fun _ _ z => by cases z) (fun _ _ z => by cases z)
      cases e
  | _, _, _, _, _, .dic r l a, h => by
    cases h with
    | lst r' l' a' =>
      have e := rd_fun (show Rd H _ _ from r) r' (fun _ _ z => by cases z) (fun _ _ z => by cases z)
      cases e
    | tup r' l' a' =>
      have e := rd_fun (show Rd H _ _ from r) (.inl r') (fun _ _ z => by cases z) (fun _ _ z => by cases z)
      cases e
    | dic r' l' a' =>
      have e := rd_fun (show Rd H _ _ from r) (show Rd H _ _ from r') (fun _ _ z => by cases z) (fun _ _ z => by cases z)
      cases e
      rw [DtKV.det a a']
theorem DtAll.det {S S' : Addr → Prop} {H : Hp} : ∀ {n m : Nat} {v : List V} {d e : List PyData}, DtAll S false H n v d → DtAll S' false H m v e → d = e
  | _, _, _, _, _, .nil, .nil => rfl
  | _, _, _, _, _, .cons a b, .cons a' b' => by rw [Dt.det a a', DtAll.det b b']
theorem DtKV.det {S S' : Addr → Prop} {H : Hp} : ∀ {n m : Nat} {v : List (Key × V)} {d e : List (PyData × PyData)}, DtKV S false H n v d → DtKV S' false H m v e → d = e
  | _, _, _, _, _, .nil, .nil => rfl
  | _, _, _, _, _, .cons a b, .cons a' b' => by rw [Dt.det a a', DtKV.det b b']
end
/-- locking a dict leaves data that is less than its own -/
theorem rd_lock {H : Hp} {a p : Addr} {u : HO} {kvs : List (Key × V)} {od : Obj} (hp : H p = some (.dK kvs)) (hu : ∀ kvs, u ≠ .dK kvs) (hf : ∀ ob x, u ≠ .frz ob x) (r : Rd H a u) : Rd (upd H p (.frz od (.dK kvs))) a u :=
  (Sm.lock (od := od) hp (fun _ _ z => by cases z) (fun _ z => by cases z)).rd r
mutual
theorem Dt.lock {S : Addr → Prop} {H : Hp} {p : Addr} {kvs : List (Key × V)} {ds : List (PyData × PyData)} {od : Obj} {m : Nat} (hp : H p = some (.dK kvs)) (hl : (kvs.length ≤ 1000000 ∧ (kvs.map (·.1)).Nodup) ∧ S p) (hd : DtKV S false H m kvs ds) : ∀ {n : Nat} {v : V} {d : PyData}, Dt S true H n v d → sizeOf d < sizeOf (PyData.dict ds) → Dt S true (upd H p (.frz od (.dK kvs))) n v d
  | _, _, _, .non, _ => .non
  | _, _, _, .bl b, _ => .bl b
  | _, _, _, .int b, _ => .int b
  | _, _, _, .str b h, _ => .str b h
  | _, _, _, .lst r l a, h => .lst (rd_lock hp (fun _ z => by cases z) (fun _ _ z => by cases z) r) l (DtAll.lock hp hl hd a (by simp at h ⊢; omega))
  | _, _, _, .tup r l a, h => .tup ((Sm.lock (od := od) hp (fun _ _ z => by cases z) (fun _ z => by cases z)).tup r) l (DtAll.lock hp hl hd a (by simp at h ⊢; omega))
  | n + 1, .ref x, .dict es, .dic (kvs := kvs') r l a, h => by
    have r' : H x = some (.dK kvs') := r
    refine .dic ?_ l (DtKV.lock hp hl hd a (by simp at h ⊢; omega))
    show upd H p _ x = some (.dK kvs')
    by_cases z : x = p
    · exfalso
      have e : Dt S false H (m + 1) (.ref x) (.dict ds) := by rw [z]; exact .dic (show Rd H p _ from .inl hp) hl hd
      have e2 : Dt S false H (n + 1) (.ref x) (.dict es) := .dic (show Rd H x _ from .inl r') l (DtKV.weak a)
      have e3 := Dt.det e2 e
      rw [e3] at h
      exact Nat.lt_irrefl _ h
    · rw [upd_ne z]; exact r'
theorem DtAll.lock {S : Addr → Prop} {H : Hp} {p : Addr} {kvs : List (Key × V)} {ds : List (PyData × PyData)} {od : Obj} {m : Nat} (hp : H p = some (.dK kvs)) (hl : (kvs.length ≤ 1000000 ∧ (kvs.map (·.1)).Nodup) ∧ S p) (hd : DtKV S false H m kvs ds) : ∀ {n : Nat} {v : List V} {d : List PyData}, DtAll S true H n v d → sizeOf d < sizeOf (PyData.dict ds) → DtAll S true (upd H p (.frz od (.dK kvs))) n v d
  | _, _, _, .nil, _ => .nil
  | _, _, _, .cons a b, h => .cons (Dt.lock hp hl hd a (by simp at h ⊢; omega)) (DtAll.lock hp hl hd b (by simp at h ⊢; omega))
theorem DtKV.lock {S : Addr → Prop} {H : Hp} {p : Addr} {kvs : List (Key × V)} {ds : List (PyData × PyData)} {od : Obj} {m : Nat} (hp : H p = some (.dK kvs)) (hl : (kvs.length ≤ 1000000 ∧ (kvs.map (·.1)).Nodup) ∧ S p) (hd : DtKV S false H m kvs ds) : ∀ {n : Nat} {v : List (Key × V)} {d : List (PyData × PyData)}, DtKV S true H n v d → sizeOf d < sizeOf (PyData.dict ds) → DtKV S true (upd H p (.frz od (.dK kvs))) n v d
  | _, _, _, .nil, _ => .nil
  | _, _, _, .cons a b, h => .cons (Dt.lock hp hl hd a (by simp at h ⊢; omega)) (DtKV.lock hp hl hd b (by simp at h ⊢; omega))
end
/-! ### items -/
theorem DtAll.len {S : Addr → Prop} {q : Bool} {H : Hp} : ∀ {n : Nat} {v : List V} {d : List PyData}, DtAll S q H n v d → v.length = d.length
  | _, _, _, .nil => rfl
  | _, _, _, .cons _ b => by rw [List.length_cons, List.length_cons, DtAll.len b]
theorem DtAll.get {S : Addr → Prop} {q : Bool} {H : Hp} : ∀ {n : Nat} {v : List V} {d : List PyData}, DtAll S q H n v d → ∀ {i : Nat} {x : PyData}, d[i]? = some x → ∃ y, v[i]? = some y ∧ Dt S q H n y x
  | _, _, _, .cons a b, 0, x, h => by cases h; exact ⟨_, rfl, a⟩
  | _, _, _, .cons a b, i + 1, x, h => b.get (i := i) h
theorem DtAll.getV {S : Addr → Prop} {q : Bool} {H : Hp} : ∀ {n : Nat} {v : List V} {d : List PyData}, DtAll S q H n v d → ∀ {i : Nat} {y : V}, v[i]? = some y → ∃ x, d[i]? = some x ∧ Dt S q H n y x
  | _, _, _, .cons a b, 0, x, h => by cases h; exact ⟨_, rfl, a⟩
  | _, _, _, .cons a b, i + 1, x, h => b.getV (i := i) h
theorem DtAll.append {S : Addr → Prop} {q : Bool} {H : Hp} : ∀ {n : Nat} {v v' : List V} {d d' : List PyData}, DtAll S q H n v d → DtAll S q H n v' d' → DtAll S q H n (v ++ v') (d ++ d')
  | _, _, _, _, _, .nil, h => h
  | _, _, _, _, _, .cons a b, h => .cons a (b.append h)
theorem DtKV.len {S : Addr → Prop} {q : Bool} {H : Hp} : ∀ {n : Nat} {v : List (Key × V)} {d : List (PyData × PyData)}, DtKV S q H n v d → v.length = d.length
  | _, _, _, .nil => rfl
  | _, _, _, .cons _ b => by rw [List.length_cons, List.length_cons, DtKV.len b]
theorem DtKV.keys {S S' : Addr → Prop} {q q' : Bool} {H H' : Hp} : ∀ {n m : Nat} {v v' : List (Key × V)} {d : List (PyData × PyData)}, DtKV S q H n v d → DtKV S' q' H' m v' d → v.map (·.1) = v'.map (·.1)
  | _, _, _, _, _, .nil, h => by cases h; rfl
  | _, _, _, _, _, .cons (k := k) a b, h => by
    generalize hd : keyD k = kd at h
    cases h with
    | @cons _ k' _ _ _ _ a' b' =>
      have e := keyD_inj hd
      rw [List.map_cons, List.map_cons, b.keys b']
      show k :: _ = k' :: _
      rw [e]
theorem DtKV.val {S S' : Addr → Prop} {q q' : Bool} {H H' : Hp} : ∀ {n m : Nat} {v v' : List (Key × V)} {d : List (PyData × PyData)}, DtKV S q H n v d → DtKV S' q' H' m v' d → ∀ (k : Key), k ∈ v.map (·.1) → ∃ x y e, valV v k = some x ∧ valV v' k = some y ∧ Dt S q H n x e ∧ Dt S' q' H' m y e ∧ sizeOf e < sizeOf (PyData.dict d)
  | _, _, _, _, _, .nil, h, k, hk => nomatch hk
  | _, _, _, _, _, .cons (k := k0) (v := v0) (vs := vs) a b, h, k, hk => by
    generalize hd : keyD k0 = kd at h
    cases h with
    | @cons _ k' v1 vs' _ _ a' b' =>
      have e := keyD_inj hd
      subst e
      by_cases z : k0 = k
      · refine ⟨_, _, _, ?_, ?_, a, a', ?_⟩
        · unfold valV; rw [List.find?_cons_of_pos (by simp [z])]; rfl
        · unfold valV; rw [List.find?_cons_of_pos (by simp [z])]; rfl
        · simp; omega
      · have hk' : k ∈ vs.map (·.1) := by
          rcases List.mem_cons.mp hk with h | h
          · exact absurd h.symm z
          · exact h
        obtain ⟨x, y, e, h1, h2, h3, h4, h5⟩ := b.val b' k hk'
        refine ⟨x, y, e, ?_, ?_, h3, h4, ?_⟩
        · unfold valV at h1 ⊢; rw [List.find?_cons_of_neg (by simp [z])]; exact h1
        · unfold valV at h2 ⊢; rw [List.find?_cons_of_neg (by simp [z])]; exact h2
        · simp at h5 ⊢; omega
theorem DtKV.getV {S : Addr → Prop} {q : Bool} {H : Hp} : ∀ {n : Nat} {v : List (Key × V)} {d : List (PyData × PyData)}, DtKV S q H n v d → ∀ {i : Nat} {k : Key} {y : V}, v[i]? = some (k, y) → ∃ x, d[i]? = some (keyD k, x) ∧ Dt S q H n y x ∧ sizeOf x < sizeOf (PyData.dict d)
  | _, _, _, .cons a b, 0, k, y, h => by
    cases h
    exact ⟨_, rfl, a, by simp; omega⟩
  | _, _, _, .cons a b, i + 1, k, y, h => by
    obtain ⟨x, h1, h2, h3⟩ := b.getV (i := i) h
    exact ⟨x, h1, h2, by simp at h3 ⊢; omega⟩
theorem DtKV.append {S : Addr → Prop} {q : Bool} {H : Hp} : ∀ {n : Nat} {v v' : List (Key × V)} {d d' : List (PyData × PyData)}, DtKV S q H n v d → DtKV S q H n v' d' → DtKV S q H n (v ++ v') (d ++ d')
  | _, _, _, _, _, .nil, h => h
  | _, _, _, _, _, .cons a b, h => .cons a (b.append h)
theorem valV_out {kvs : List (Key × V)} {k : Key} (h : k ∉ kvs.map (·.1)) : valV kvs k = none := by
  unfold valV
  rw [Option.map_eq_none_iff, List.find?_eq_none]
  intro x hx hk
  exact h (List.mem_map.mpr ⟨x, hx, of_decide_eq_true hk⟩)
theorem valV_at : ∀ {kvs : List (Key × V)} {i : Nat} {k : Key} {v : V}, (kvs.map (·.1)).Nodup → kvs[i]? = some (k, v) → valV kvs k = some v
  | [], _, _, _, _, h => by cases h
  | p :: r, 0, k, v, _, h => by
    cases h
    unfold valV
    rw [List.find?_cons_of_pos (by simp)]; rfl
  | p :: r, i + 1, k, v, nd, h => by
    have ih := valV_at (kvs := r) (i := i) (List.nodup_cons.mp nd).2 h
    have hm : k ∈ r.map (·.1) := List.mem_map.mpr ⟨(k, v), List.mem_of_getElem? h, rfl⟩
    have hne : p.1 ≠ k := fun z => (List.nodup_cons.mp nd).1 (by rw [← z] at hm; exact hm)
    unfold valV at ih ⊢
    rw [List.find?_cons_of_neg (by simp [hne])]
    exact ih
theorem nodup_at {α : Type} : ∀ {l : List α} (_ : l.Nodup) {i j : Nat} (hi : i < l.length) (hj : j < l.length), l[i] = l[j] → i = j
  | a :: l, nd, 0, 0, _, _, _ => rfl
  | a :: l, nd, 0, j + 1, _, hj, e => absurd (show a ∈ l by rw [show a = l[j]'(by simpa using hj) from e]; exact List.getElem_mem _) (List.nodup_cons.mp nd).1
  | a :: l, nd, i + 1, 0, hi, _, e => absurd (show a ∈ l by rw [← show l[i]'(by simpa using hi) = a from e]; exact List.getElem_mem _) (List.nodup_cons.mp nd).1
  | a :: l, nd, i + 1, j + 1, hi, hj, e => congrArg (· + 1) (nodup_at (List.nodup_cons.mp nd).2 (by simpa using hi) (by simpa using hj) e)
theorem notin_take {α : Type} {l : List α} {i : Nat} {x : α} (nd : l.Nodup) (h : l[i]? = some x) : x ∉ l.take i := fun hm => by
  obtain ⟨j, hj, e⟩ := List.mem_take_iff_getElem.mp hm
  obtain ⟨hi, e2⟩ := List.getElem?_eq_some_iff.mp h
  have := (nodup_at nd (by omega) hi (e.trans e2.symm))
  omega
/-! ### what isinstance tells of data -/
def tyD : PyData → Value
  | .none => .type "NoneType"
  | .bool _ => .type "bool"
  | .int _ => .type "int"
  | .str _ => .type "str"
  | .list _ => .type "list"
  | .tuple _ => .type "tuple"
  | .dict _ => .type "dict"
end Fm
namespace Fm
open PySem PySem.Spec PyProof.Rows L2
def tyS : PyData → String
  | .none => "NoneType"
  | .bool _ => "bool"
  | .int _ => "int"
  | .str _ => "str"
  | .list _ => "list"
  | .tuple _ => "tuple"
  | .dict _ => "dict"
theorem Dt.ty {S : Addr → Prop} {K : PySem.W.Frag} {q : Bool} {H : Hp} : ∀ {n : Nat} {v : V} {d : PyData}, Dt S q H n v d → TyX K H v (.type (tyS d))
  | _, _, _, .non => .base .non
  | _, _, _, .bl b => .base (.bl b)
  | _, _, _, .int b => .base (.int b)
  | _, _, _, .str b _ => .base (.str b)
  | _, _, _, .lst r l a => by
    rcases r with r | ⟨o, r⟩
    · exact .base (.lst r)
    · exact .base (.frz r)
  | _, _, _, .tup r l a => .base (.tup r)
  | _, _, _, .dic r l a => by
    have r' := (show Rd H _ _ by
      unfold DkAt at r
      cases q with
      | true => exact .inl r
      | false => exact r)
    rcases r' with r | ⟨o, r⟩
    · exact .base (.dK r)
    · exact .fDict r
def isL : PyData → Bool
  | .list _ => true
  | _ => false
theorem kb_list : ∀ d : PyData, kitB (tyS d) "list" = some (isL d)
  | .none => (by decide +kernel : kitB "NoneType" "list" = some false)
  | .bool _ => (by decide +kernel : kitB "bool" "list" = some false)
  | .int _ => (by decide +kernel : kitB "int" "list" = some false)
  | .str _ => (by decide +kernel : kitB "str" "list" = some false)
  | .list _ => (by decide +kernel : kitB "list" "list" = some true)
  | .tuple _ => (by decide +kernel : kitB "tuple" "list" = some false)
  | .dict _ => (by decide +kernel : kitB "dict" "list" = some false)
def isT : PyData → Bool
  | .tuple _ => true
  | _ => false
theorem kb_tuple : ∀ d : PyData, kitB (tyS d) "tuple" = some (isT d)
  | .none => (by decide +kernel : kitB "NoneType" "tuple" = some false)
  | .bool _ => (by decide +kernel : kitB "bool" "tuple" = some false)
  | .int _ => (by decide +kernel : kitB "int" "tuple" = some false)
  | .str _ => (by decide +kernel : kitB "str" "tuple" = some false)
  | .list _ => (by decide +kernel : kitB "list" "tuple" = some false)
  | .tuple _ => (by decide +kernel : kitB "tuple" "tuple" = some true)
  | .dict _ => (by decide +kernel : kitB "dict" "tuple" = some false)
def isM : PyData → Bool
  | .dict _ => true
  | _ => false
theorem kb_dict : ∀ d : PyData, kitB (tyS d) "dict" = some (isM d)
  | .none => (by decide +kernel : kitB "NoneType" "dict" = some false)
  | .bool _ => (by decide +kernel : kitB "bool" "dict" = some false)
  | .int _ => (by decide +kernel : kitB "int" "dict" = some false)
  | .str _ => (by decide +kernel : kitB "str" "dict" = some false)
  | .list _ => (by decide +kernel : kitB "list" "dict" = some false)
  | .tuple _ => (by decide +kernel : kitB "tuple" "dict" = some false)
  | .dict _ => (by decide +kernel : kitB "dict" "dict" = some true)
def isB : PyData → Bool
  | .bool _ => true
  | _ => false
theorem kb_bool : ∀ d : PyData, kitB (tyS d) "bool" = some (isB d)
  | .none => (by decide +kernel : kitB "NoneType" "bool" = some false)
  | .bool _ => (by decide +kernel : kitB "bool" "bool" = some true)
  | .int _ => (by decide +kernel : kitB "int" "bool" = some false)
  | .str _ => (by decide +kernel : kitB "str" "bool" = some false)
  | .list _ => (by decide +kernel : kitB "list" "bool" = some false)
  | .tuple _ => (by decide +kernel : kitB "tuple" "bool" = some false)
  | .dict _ => (by decide +kernel : kitB "dict" "bool" = some false)
def isI : PyData → Bool
  | .bool _ => true
  | .int _ => true
  | _ => false
theorem kb_int : ∀ d : PyData, kitB (tyS d) "int" = some (isI d)
  | .none => (by decide +kernel : kitB "NoneType" "int" = some false)
  | .bool _ => (by decide +kernel : kitB "bool" "int" = some true)
  | .int _ => (by decide +kernel : kitB "int" "int" = some true)
  | .str _ => (by decide +kernel : kitB "str" "int" = some false)
  | .list _ => (by decide +kernel : kitB "list" "int" = some false)
  | .tuple _ => (by decide +kernel : kitB "tuple" "int" = some false)
  | .dict _ => (by decide +kernel : kitB "dict" "int" = some false)
def isS : PyData → Bool
  | .str _ => true
  | _ => false
theorem kb_str : ∀ d : PyData, kitB (tyS d) "str" = some (isS d)
  | .none => (by decide +kernel : kitB "NoneType" "str" = some false)
  | .bool _ => (by decide +kernel : kitB "bool" "str" = some false)
  | .int _ => (by decide +kernel : kitB "int" "str" = some false)
  | .str _ => (by decide +kernel : kitB "str" "str" = some true)
  | .list _ => (by decide +kernel : kitB "list" "str" = some false)
  | .tuple _ => (by decide +kernel : kitB "tuple" "str" = some false)
  | .dict _ => (by decide +kernel : kitB "dict" "str" = some false)
theorem isi1 {S : Addr → Prop} {K : PySem.W.Frag} {q : Bool} {H : Hp} {n : Nat} {x : V} {d : PyData} {T : String} {b : Bool} {Q : VK} (h : Dt S q H n x d) (hb : kitB (tyS d) T = some b) (hq : Q (.bl b) H) : rIsi K [x, .ty T] H Q :=
  ⟨x, .ty T, .type (tyS d), .type T, b, rfl, .ty T, h.ty, kit_ty hb, hq⟩
def isRowD : PyData → Bool
  | .list _ => true
  | .tuple _ => true
  | _ => false
theorem kit_row {K : PySem.W.Frag} (d : PyData) : PySem.W.kitAny K (.type (tyS d)) [.type "list", .type "tuple"] = some (isRowD d) := by
  refine kitAny_cons (kit_ty (kb_list d)) (fun e => kitAny_cons (kit_ty (kb_tuple d)) (fun e' => ?_) (fun e' => ?_)) (fun e => ?_)
  · cases d <;> first | rfl | exact Bool.noConfusion e' | exact Bool.noConfusion e
  · cases d <;> first | rfl | exact Bool.noConfusion e' | exact Bool.noConfusion e
  · cases d <;> first | rfl | exact Bool.noConfusion e
theorem isiR {S : Addr → Prop} {K : PySem.W.Frag} {q : Bool} {H : Hp} {n : Nat} {x : V} {d : PyData} {T : Addr} {Q : VK} (h : Dt S q H n x d) (hT : H T = some (.tup [.ty "list", .ty "tuple"])) (hq : Q (.bl (isRowD d)) H) : rIsiT K [x, .ref T] H Q :=
  ⟨x, T, _, .type (tyS d), [.type "list", .type "tuple"], _, rfl, hT, .cons (.ty _) (.cons (.ty _) .nil), h.ty, kit_row d, hq⟩
theorem iteB {b c : Bool} {A B : Prop} (e : b = c) (h : if c = true then A else B) : if b = true then A else B := by rw [e]; exact h
theorem callR_or {X : Cx} {f : Value} {r r' : List V → Hp → VK → Prop} (h : CallR X f r) (h' : CallR X f r') : CallR X f (fun xs H Q => r xs H Q ∨ r' xs H Q) := by
  intro pins s σ H xs us Q I rv q
  rcases q with q | q
  · exact h pins s σ H xs us Q I rv q
  · exact h' pins s σ H xs us Q I rv q
theorem opR_or {X : Cx} {f : Value → Value → Sem Value} {r r' : R2} (h : OpR X f r) (h' : OpR X f r') : OpR X f (fun x y H Q => r x y H Q ∨ r' x y H Q) := by
  intro pins s σ H x y v u Q I rx ry q
  rcases q with q | q
  · exact h pins s σ H x y v u Q I rx ry q
  · exact h' pins s σ H x y v u Q I rx ry q
/-- len of a dict, locked or not -/
theorem call_lenR {X : Cx} : CallR X (.builtin "len") (fun xs H Q => ∃ a kvs, xs = [V.ref a] ∧ Rd H a (.dK kvs) ∧ Q (.int kvs.length) H) := by
  intro pins s σ H xs us Q I r h
  obtain ⟨a, kvs, rfl, ha, q⟩ := h
  obtain ⟨u, rfl, ru⟩ := vals1 r
  cases ru
  exact d_len I ha fun t s' I' => ⟨.int kvs.length, H, I', ⟨t, rfl⟩, q⟩
/-- a def of which nothing is promised -/
theorem Dfn.none {P : Program} {w : World} {K : PySem.W.Frag} {mg : Str → Option Value} {base : Heap} {x : Str} {st : Stmt} {ps : List Str} {CX : CXT} {k : Nat} (D : Dfn K mg x st ps) : Has P w K mg base CX x ps k (fun _ _ _ _ => False) := by
  obtain ⟨f, fd, F, g, b⟩ := D
  exact ⟨f, fd, ⟨fun _ _ _ _ h => h.elim, fun _ _ _ _ _ _ _ _ _ _ _ _ _ h => h.elim⟩, g, F.kp, b⟩
end Fm
namespace Fm
open PySem PySem.Spec PyProof.Rows L2
theorem rd_some {H : Hp} {a : Addr} {u : HO} (r : Rd H a u) : H a ≠ none := by
  rcases r with r | ⟨o, r⟩ <;> rw [r] <;> exact fun z => nomatch z
mutual
theorem Dt.inH {S : Addr → Prop} {q : Bool} {H : Hp} : ∀ {n : Nat} {v : V} {d : PyData}, Dt S q H n v d → Dt (fun a => S a ∧ H a ≠ none) q H n v d
  | _, _, _, .non => .non
  | _, _, _, .bl b => .bl b
  | _, _, _, .int b => .int b
  | _, _, _, .str b h => .str b h
  | _, _, _, .lst r l a => .lst r ⟨l.1, l.2, rd_some r⟩ (DtAll.inH a)
  | _, _, _, .tup r l a => .tup r ⟨l.1, l.2, rd_some (.inl r)⟩ (DtAll.inH a)
  | _, _, _, .dic r l a => .dic r ⟨l.1, l.2, by
      unfold DkAt at r
      cases q with
      | true => exact rd_some (.inl r)
      | false => exact rd_some r⟩ (DtKV.inH a)
theorem DtAll.inH {S : Addr → Prop} {q : Bool} {H : Hp} : ∀ {n : Nat} {v : List V} {d : List PyData}, DtAll S q H n v d → DtAll (fun a => S a ∧ H a ≠ none) q H n v d
  | _, _, _, .nil => .nil
  | _, _, _, .cons a b => .cons (Dt.inH a) (DtAll.inH b)
theorem DtKV.inH {S : Addr → Prop} {q : Bool} {H : Hp} : ∀ {n : Nat} {v : List (Key × V)} {d : List (PyData × PyData)}, DtKV S q H n v d → DtKV (fun a => S a ∧ H a ≠ none) q H n v d
  | _, _, _, .nil => .nil
  | _, _, _, .cons a b => .cons (Dt.inH a) (DtKV.inH b)
end
end Fm

namespace Fm
open PySem PySem.Spec PyProof.Rows L2
def spAlike (n : Nat) : Sp := fun vs H Q _ => ∃ (S S' : Addr → Prop) (x y : V) (d : PyData), vs = [x, y] ∧ Dt S true H n x d ∧ Dt S' false H n y d ∧ ∀ H', Kp [] H H' → Q (.bl true) H'
def spAlikeB : Nat → Sp
  | 0 => fun _ _ _ _ => False
  | n + 1 => spAlike n
theorem reps_snoc (i : Nat) : (List.replicate i true).map V.bl ++ [V.bl true] = (List.replicate (i + 1) true).map V.bl := by
  rw [List.replicate_succ', List.map_append]; rfl
theorem reps_all (i : Nat) : (List.replicate i true).all id = true := by
  rw [List.all_eq_true]
  intro x hx
  rw [(List.mem_replicate.mp hx).2]; rfl
section
variable {P : Program} {w : World} {K : PySem.W.Frag} {mg : Str → Option Value} {base : Heap}
theorem step_alike (B : Bi mg) (D : Dfn K mg "_law_alike" s__law_alike ["_law_one", "_law_other"]) (n : Nat) (G_alike : Has P w K mg base CX0 "_law_alike" ["_law_one", "_law_other"] n (spAlikeB n)) :
    Has P w K mg base CX0 "_law_alike" ["_law_one", "_law_other"] (n + 1) (spAlike n) := by
  refine D.has sc__law_alike (fun vs H Q E h => ?_) (fun f cdv A outer s H vs Q E hr h => ?_)
  · obtain ⟨S, S', x, y, d, rfl, _⟩ := h; rfl
  · obtain ⟨S, S', x, y, d, rfl, hx, hy, k⟩ := h
    have hu := hu_of hr
    refine ⟨_, (pss_cons (ps_if (pt_val (pe_callB call_isiT (by rfl) B.isinstance (by decide +kernel) (pa_cons (pv 0) (pa_cons (pe_tup (pa_cons (pe_bltn (v := .ty "list") (by rfl) B.list (by decide +kernel) rfl) (pa_cons (pe_bltn (v := .ty "tuple") (by rfl) B.tuple (by decide +kernel) rfl) pa_nil))) pa_nil))))
  (pss_cons (ps_if (PW.pt (pw_or (pt_cmpR op_ne (pe_callB call_isi (by rfl) B.isinstance (by decide +kernel) (pa_cons (pv 0) (pa_cons (pe_bltn (v := .ty "list") (by rfl) B.list (by decide +kernel) rfl) pa_nil))) (pe_callB call_isi (by rfl) B.isinstance (by decide +kernel) (pa_cons (pv 1) (pa_cons (pe_bltn (v := .ty "list") (by rfl) B.list (by decide +kernel) rfl) pa_nil))) (nomark _)) (pw_or1 (pt_cmpR op_ne (pe_callB call_isi (by rfl) B.isinstance (by decide +kernel) (pa_cons (pv 0) (pa_cons (pe_bltn (v := .ty "tuple") (by rfl) B.tuple (by decide +kernel) rfl) pa_nil))) (pe_callB call_isi (by rfl) B.isinstance (by decide +kernel) (pa_cons (pv 1) (pa_cons (pe_bltn (v := .ty "tuple") (by rfl) B.tuple (by decide +kernel) rfl) pa_nil))) (nomark _)))))
  (pss_one (ps_ret pe_bl))
  pss_nil)
  (pss_cons (ps_if (pt_cmpR op_ne (pe_callB call_len (by rfl) B.len PySem.boot_len (pa_cons (pv 0) pa_nil)) (pe_callB call_len (by rfl) B.len PySem.boot_len (pa_cons (pv 1) pa_nil)) (nomark _))
  (pss_one (ps_ret pe_bl))
  pss_nil)
  (pss_one (ps_ret (pe_callB (cr_all rfl) (by rfl) B.all (by decide +kernel) (pa_cons (pe_lc (own := [("_law_k", 2)]) (g := gName 2) (by rfl) sc__law_alike.nd (pi_range1 rfl B.range (pa_cons (pe_callB call_len (by rfl) B.len PySem.boot_len (pa_cons (pv 0) pa_nil)) pa_nil)) (blkOk_by (own := [("_law_k", 2)]) (N := N__law_alike) (sc := defScope s__law_alike) (by decide +kernel)) (fun _ _ _ _ _ => (pg_name (i := 2) sc__law_alike.nd rfl (by first | exact Or.inl rfl | exact Or.inr rfl))) (fun _ _ _ _ _ => pts_nil) (fun _ _ _ _ _ => (pe_has G_alike hr (pa_cons (pe_ix (r := rIx K) ix_seq (pv 0) (pv 2) (fun _ _ => rfl)) (pa_cons (pe_ix (r := rIx K) ix_seq (pv 1) (pv 2) (fun _ _ => rfl)) pa_nil))))) pa_nil))))))
  pss_nil)
  (pss_cons (ps_if (PW.pt (pw_and (pt_val (pe_callB call_isi (by rfl) B.isinstance (by decide +kernel) (pa_cons (pv 0) (pa_cons (pe_bltn (v := .ty "dict") (by rfl) B.dict (by decide +kernel) rfl) pa_nil)))) (pw_and1 (pt_val (pe_callB call_isi (by rfl) B.isinstance (by decide +kernel) (pa_cons (pv 1) (pa_cons (pe_bltn (v := .ty "dict") (by rfl) B.dict (by decide +kernel) rfl) pa_nil)))))))
  (pss_cons (ps_if (pt_cmpR op_ne (pe_callB call_lenR (by rfl) B.len PySem.boot_len (pa_cons (pv 0) pa_nil)) (pe_callB call_lenR (by rfl) B.len PySem.boot_len (pa_cons (pv 1) pa_nil)) (nomark _))
  (pss_one (ps_ret pe_bl))
  pss_nil)
  (pss_one (ps_ret (pe_callB (cr_all rfl) (by rfl) B.all (by decide +kernel) (pa_cons (pe_lock (pe_lc (own := [("_law_key", 3)]) (g := gName 3) (by rfl) sc__law_alike.nd (pi_keys (pv 0)) (blkOk_by (own := [("_law_key", 3)]) (N := N__law_alike) (sc := defScope s__law_alike) (by decide +kernel)) (fun _ _ _ _ _ => (pg_name (i := 3) sc__law_alike.nd rfl (by first | exact Or.inl rfl | exact Or.inr rfl))) (fun _ _ _ _ _ => pts_nil) (fun _ _ _ _ _ => (pe_and (pe_cmp (pc_din hu (pv 3) (pv 1)) rfl) (pe_one (pe_has G_alike hr (pa_cons (pe_dget hu (pv 0) (pv 3) (fun _ _ => rfl)) (pa_cons (pe_dget1 hu (pv 1) (pv 3) ⟨rfl, rfl, rfl, rfl⟩) pa_nil)))))))) pa_nil)))))
  pss_nil)
  (pss_one (ps_ret (pe_and (pe_cmpR op_eq (pe_callB call_isi (by rfl) B.isinstance (by decide +kernel) (pa_cons (pv 0) (pa_cons (pe_bltn (v := .ty "bool") (by rfl) B.bool (by decide +kernel) rfl) pa_nil))) (pe_callB call_isi (by rfl) B.isinstance (by decide +kernel) (pa_cons (pv 1) (pa_cons (pe_bltn (v := .ty "bool") (by rfl) B.bool (by decide +kernel) rfl) pa_nil))) (nomark _)) (pe_one (pe_cmpR op_eq (pv 0) (pv 1) (nomark _)))))))), ?_⟩
    -- isinstance(one, (list, tuple))
    refine ⟨_, rfl, (by show 2 ≤ sizeLine; decide), fun T hT => ⟨_, T, _, _, _, _, rfl, upd_same, .cons (.ty _) (.cons (.ty _) .nil), (hx.keep (Kp.new hT)).ty, kit_row _, _, rfl, ?_⟩⟩
    have hx1 := hx.keep (Kp.new (o := .tup [.ty "list", .ty "tuple"]) hT)
    have hy1 := hy.keep (Kp.new (o := .tup [.ty "list", .ty "tuple"]) hT)
    have k1 : Kp [] H (upd H T (.tup [.ty "list", .ty "tuple"])) := Kp.new hT
    generalize upd H T (.tup [.ty "list", .ty "tuple"]) = H1 at hx1 hy1 k1 ⊢
    cases d with
    | list ds =>
      refine iteT ?_
      cases hx1 with
      | @lst m p xs _ rx lx ax =>
        cases hy1 with
        | @lst _ p' ys _ ry ly ay =>
          have hx1 : Dt S true H1 (m + 1) (.ref p) (.list ds) := .lst rx lx ax
          have hy1 : Dt S' false H1 (m + 1) (.ref p') (.list ds) := .lst ry ly ay
          have hl : xs.length = ys.length := ax.len.trans ay.len.symm
          refine ⟨_, rfl, _, _, _, _, _, rfl, .ty _, hx1.ty, kit_ty (kb_list _), _, rfl, _, _, _, _, _, rfl, .ty _, hy1.ty, kit_ty (kb_list _), rfl, _, rfl, iteF ?_⟩
          refine ⟨_, rfl, _, _, _, _, _, rfl, .ty _, hx1.ty, kit_ty (kb_tuple _), _, rfl, _, _, _, _, _, rfl, .ty _, hy1.ty, kit_ty (kb_tuple _), rfl, _, rfl, iteF ?_⟩
          refine ⟨_, rfl, _, _, rfl, .inl ⟨_, .inl rx, rfl⟩, _, rfl, _, _, rfl, .inl ⟨_, .inl ry, rfl⟩, rfl, _, rfl, ?_⟩
          refine iteNS (by rw [hl]) ?_
          refine ⟨_, rfl, _, _, rfl, .inl ⟨_, .inl rx, rfl⟩, (xs.length : Int), rfl, by omega, (by have := lx.1; omega), fun D hD => ?_⟩
          have hDH : H D = none := by
            cases e : H D with
            | none => rfl
            | some o => rw [k1.at_ D o e (fun z => nomatch z)] at hD; cases hD
          refine lc_range (lo := 0) (n := (xs.length : Int).toNat) (fun i H' => H' D = some (.lst ((List.replicate i true).map V.bl)) ∧ Kp [] H1 H') ⟨upd_same, Kp.new hD⟩ ?_ ?_
          · rintro i H2 hi ⟨h2, k2⟩
            have hi' : i < xs.length := by omega
            obtain ⟨u, hu1⟩ : ∃ u, xs[i]? = some u := ⟨xs[i], List.getElem?_eq_getElem hi'⟩
            obtain ⟨d, hd, du⟩ := ax.getV hu1
            obtain ⟨v, hv1, dv⟩ := ay.get hd
            have e0 : (0 + (i : Int)).toNat = i := by omega
            refine ⟨rfl, _, rfl, _, rfl, .inl ⟨_, _, _, u, rfl, rfl, .inl (k2.rd (fun z => nomatch z) rx), atI_of (by omega) (by rw [e0]; exact hu1), ?_⟩⟩
            refine ⟨_, rfl, _, rfl, .inl ⟨_, _, _, v, rfl, rfl, .inl (k2.rd (fun z => nomatch z) ry), atI_of (by omega) (by rw [e0]; exact hv1), ?_⟩⟩
            refine ⟨S, S', u, v, d, rfl, du.keep k2, dv.keep k2, fun H3 k3 => ?_⟩
            refine ⟨_, k3.at_ _ _ h2 (fun z => nomatch z), ?_, ?_, (k2.trans k3).late hD⟩
            · rw [List.length_map, List.length_replicate]
              exact Nat.lt_of_lt_of_le hi' (Nat.le_trans lx.1 (by decide))
            · rw [upd_same, reps_snoc]
          · rintro H2 ⟨h2, k2⟩
            refine ⟨D, _, rfl, SqL.of h2, ?_⟩
            rw [reps_all]
            exact k H2 (k1.trans k2)
    | tuple ds =>
      refine iteT ?_
      cases hx1 with
      | @tup m p xs _ rx lx ax =>
        cases hy1 with
        | @tup _ p' ys _ ry ly ay =>
          have hx1 : Dt S true H1 (m + 1) (.ref p) (.tuple ds) := .tup rx lx ax
          have hy1 : Dt S' false H1 (m + 1) (.ref p') (.tuple ds) := .tup ry ly ay
          have hl : xs.length = ys.length := ax.len.trans ay.len.symm
          refine ⟨_, rfl, _, _, _, _, _, rfl, .ty _, hx1.ty, kit_ty (kb_list _), _, rfl, _, _, _, _, _, rfl, .ty _, hy1.ty, kit_ty (kb_list _), rfl, _, rfl, iteF ?_⟩
          refine ⟨_, rfl, _, _, _, _, _, rfl, .ty _, hx1.ty, kit_ty (kb_tuple _), _, rfl, _, _, _, _, _, rfl, .ty _, hy1.ty, kit_ty (kb_tuple _), rfl, _, rfl, iteF ?_⟩
          refine ⟨_, rfl, _, _, rfl, .inr ⟨_, .inl (.inl rx), rfl⟩, _, rfl, _, _, rfl, .inr ⟨_, .inl (.inl ry), rfl⟩, rfl, _, rfl, ?_⟩
          refine iteNS (by rw [hl]) ?_
          refine ⟨_, rfl, _, _, rfl, .inr ⟨_, .inl (.inl rx), rfl⟩, (xs.length : Int), rfl, by omega, (by have := lx.1; omega), fun D hD => ?_⟩
          have hDH : H D = none := by
            cases e : H D with
            | none => rfl
            | some o => rw [k1.at_ D o e (fun z => nomatch z)] at hD; cases hD
          refine lc_range (lo := 0) (n := (xs.length : Int).toNat) (fun i H' => H' D = some (.lst ((List.replicate i true).map V.bl)) ∧ Kp [] H1 H') ⟨upd_same, Kp.new hD⟩ ?_ ?_
          · rintro i H2 hi ⟨h2, k2⟩
            have hi' : i < xs.length := by omega
            obtain ⟨u, hu1⟩ : ∃ u, xs[i]? = some u := ⟨xs[i], List.getElem?_eq_getElem hi'⟩
            obtain ⟨d, hd, du⟩ := ax.getV hu1
            obtain ⟨v, hv1, dv⟩ := ay.get hd
            have e0 : (0 + (i : Int)).toNat = i := by omega
            refine ⟨rfl, _, rfl, _, rfl, .inr (.inl ⟨_, _, _, u, rfl, rfl, .inl (.inl (k2.tp _ _ rx)), atI_of (by omega) (by rw [e0]; exact hu1), ?_⟩)⟩
            refine ⟨_, rfl, _, rfl, .inr (.inl ⟨_, _, _, v, rfl, rfl, .inl (.inl (k2.tp _ _ ry)), atI_of (by omega) (by rw [e0]; exact hv1), ?_⟩)⟩
            refine ⟨S, S', u, v, d, rfl, du.keep k2, dv.keep k2, fun H3 k3 => ?_⟩
            refine ⟨_, k3.at_ _ _ h2 (fun z => nomatch z), ?_, ?_, (k2.trans k3).late hD⟩
            · rw [List.length_map, List.length_replicate]
              exact Nat.lt_of_lt_of_le hi' (Nat.le_trans lx.1 (by decide))
            · rw [upd_same, reps_snoc]
          · rintro H2 ⟨h2, k2⟩
            refine ⟨D, _, rfl, SqL.of h2, ?_⟩
            rw [reps_all]
            exact k H2 (k1.trans k2)
    | dict ds =>
      refine iteF ?_
      cases hx1 with
      | @dic m p kvs _ rx lx ax =>
        cases hy1 with
        | @dic _ p' lvs _ ry ly ay =>
          have hx1 : Dt S true H1 (m + 1) (.ref p) (.dict ds) := .dic rx lx ax
          have hy1 : Dt S' false H1 (m + 1) (.ref p') (.dict ds) := .dic ry ly ay
          have rx' : H1 p = some (.dK kvs) := rx
          have ry' : Rd H1 p' (.dK lvs) := ry
          have hl : kvs.length = lvs.length := ax.len.trans ay.len.symm
          refine ⟨_, rfl, _, _, _, _, _, rfl, .ty _, hx1.ty, kit_ty (kb_dict _), _, rfl, iteT ?_⟩
          refine ⟨_, rfl, _, _, _, _, _, rfl, .ty _, hy1.ty, kit_ty (kb_dict _), _, rfl, iteT ?_⟩
          refine ⟨_, rfl, _, _, rfl, .inl rx', _, rfl, _, _, rfl, ry', rfl, _, rfl, ?_⟩
          refine iteNS (by rw [hl]) ?_
          refine ⟨p, _, rx', trivial, fun od => ?_⟩
          have sl : Sm H1 (upd H1 p (.frz od (.dK kvs))) := Sm.lock rx' (fun _ _ z => by cases z) (fun _ z => by cases z)
          refine ⟨_, rfl, p, od, rfl, .inl ⟨kvs, upd_same, fun D hD => ?_⟩⟩
          have Dp : D ≠ p := fun z => by rw [z, upd_same] at hD; cases hD
          have hD1 : H1 D = none := by rw [upd_ne Dp] at hD; exact hD
          refine lc_it (walk_keys (kvs := kvs)) (fun i H' => H' D = some (.lst ((List.replicate i true).map V.bl)) ∧ Kp [] (upd H1 p (.frz od (.dK kvs))) H') ⟨upd_same, Kp.new hD⟩ ?_ ?_ ?_
          · rintro i H2 hi ⟨h2, k2⟩
            exact k2.at_ p _ upd_same (fun z => nomatch z)
          · rintro i xk H2 H3 hi ⟨h2, k2⟩ ⟨rfl, kk, vv, hk, rfl⟩
            have mk : kk ∈ kvs.map (·.1) := List.mem_map.mpr ⟨(kk, vv), List.mem_of_getElem? hk, rfl⟩
            obtain ⟨u, v, e, hu1, hv1, du, dv, hs⟩ := ax.val ay kk mk
            have rd1 : Rd H3 p (.dK kvs) := .inr ⟨od, k2.at_ p _ upd_same (fun z => nomatch z)⟩
            have rd2 : Rd H3 p' (.dK lvs) := k2.rd (fun z => nomatch z) (sl.rd ry')
            refine ⟨rfl, _, rfl, _, rfl, p', some v, rfl, .inl ⟨lvs, kk, rd2, rfl, hv1.symm⟩, _, rfl, iteT ?_⟩
            refine ⟨_, rfl, _, rfl, p, u, rfl, .inl ⟨kvs, kk, rd1, rfl, hu1.symm⟩, ?_⟩
            refine ⟨_, rfl, p', rfl, .inl ⟨lvs, rd2⟩, _, rfl, some v, .inl ⟨lvs, kk, rd2, rfl, hv1.symm⟩, ?_⟩
            refine ⟨S, S', u, v, e, rfl, (du.lock rx' lx ax.weak hs).keep k2, (dv.sm sl).keep k2, fun H4 k4 => ?_⟩
            refine ⟨_, k4.at_ _ _ h2 (fun z => nomatch z), ?_, ?_, (k2.trans k4).late hD⟩
            · rw [List.length_map, List.length_replicate]
              exact Nat.lt_of_lt_of_le hi (Nat.le_trans lx.1.1 (by decide))
            · rw [upd_same, reps_snoc]
          · rintro H2 ⟨h2, k2⟩
            refine ⟨k2.at_ p _ upd_same (fun z => nomatch z), ?_⟩
            refine ⟨D, _, rfl, SqL.of (by rw [upd_ne Dp]; exact h2), ?_⟩
            rw [reps_all]
            refine k _ (k1.trans ⟨fun a o e _ => ?_, fun a xs e => ?_⟩)
            · by_cases z : a = p
              · rw [z, upd_same]; rw [z, rx'] at e; exact e
              · rw [upd_ne z]; exact k2.at_ a o (by rw [upd_ne z]; exact e) (fun z => nomatch z)
            · by_cases z : a = p
              · rw [z, rx'] at e; cases e
              · rw [upd_ne z]; exact k2.tp a xs (by rw [upd_ne z]; exact e)
    | none =>
      refine iteF ?_
      cases hx1
      cases hy1
      refine ⟨_, rfl, _, _, _, _, _, rfl, .ty _, (Dt.non (S := S) (q := true) (H := H1) (n := 0)).ty, kit_ty (kb_dict _), _, rfl, iteF ?_⟩
      refine iteF ?_
      refine ⟨_, rfl, _, _, _, _, _, rfl, .ty _, (Dt.non (S := S) (q := true) (H := H1) (n := 0)).ty, kit_ty (kb_bool _), _, rfl, _, _, _, _, _, rfl, .ty _, (Dt.non (S := S) (q := true) (H := H1) (n := 0)).ty, kit_ty (kb_bool _), rfl, _, rfl, iteT ?_⟩
      refine ⟨_, rfl, _, rfl, rfl, ?_⟩
      rw [decide_eq_true rfl]
      exact k H1 k1
    | bool b =>
      refine iteF ?_
      cases hx1
      cases hy1
      refine ⟨_, rfl, _, _, _, _, _, rfl, .ty _, (Dt.bl (S := S) (q := true) (H := H1) (n := 0) b).ty, kit_ty (kb_dict _), _, rfl, iteF ?_⟩
      refine iteF ?_
      refine ⟨_, rfl, _, _, _, _, _, rfl, .ty _, (Dt.bl (S := S) (q := true) (H := H1) (n := 0) b).ty, kit_ty (kb_bool _), _, rfl, _, _, _, _, _, rfl, .ty _, (Dt.bl (S := S) (q := true) (H := H1) (n := 0) b).ty, kit_ty (kb_bool _), rfl, _, rfl, iteT ?_⟩
      refine ⟨_, rfl, _, rfl, rfl, ?_⟩
      rw [decide_eq_true rfl]
      exact k H1 k1
    | int i =>
      refine iteF ?_
      cases hx1
      cases hy1
      refine ⟨_, rfl, _, _, _, _, _, rfl, .ty _, (Dt.int (S := S) (q := true) (H := H1) (n := 0) i).ty, kit_ty (kb_dict _), _, rfl, iteF ?_⟩
      refine iteF ?_
      refine ⟨_, rfl, _, _, _, _, _, rfl, .ty _, (Dt.int (S := S) (q := true) (H := H1) (n := 0) i).ty, kit_ty (kb_bool _), _, rfl, _, _, _, _, _, rfl, .ty _, (Dt.int (S := S) (q := true) (H := H1) (n := 0) i).ty, kit_ty (kb_bool _), rfl, _, rfl, iteT ?_⟩
      refine ⟨_, rfl, _, rfl, rfl, ?_⟩
      rw [decide_eq_true rfl]
      exact k H1 k1
    | str z =>
      refine iteF ?_
      cases hx1 with
      | str _ hz =>
      cases hy1
      refine ⟨_, rfl, _, _, _, _, _, rfl, .ty _, (Dt.str (S := S) (q := true) (H := H1) (n := 0) z hz).ty, kit_ty (kb_dict _), _, rfl, iteF ?_⟩
      refine iteF ?_
      refine ⟨_, rfl, _, _, _, _, _, rfl, .ty _, (Dt.str (S := S) (q := true) (H := H1) (n := 0) z hz).ty, kit_ty (kb_bool _), _, rfl, _, _, _, _, _, rfl, .ty _, (Dt.str (S := S) (q := true) (H := H1) (n := 0) z hz).ty, kit_ty (kb_bool _), rfl, _, rfl, iteT ?_⟩
      refine ⟨_, rfl, _, rfl, rfl, ?_⟩
      rw [decide_eq_true rfl]
      exact k H1 k1
theorem ok_alike (B : Bi mg) (D : Dfn K mg "_law_alike" s__law_alike ["_law_one", "_law_other"]) : ∀ n : Nat, Has P w K mg base CX0 "_law_alike" ["_law_one", "_law_other"] (n + 1) (spAlike n)
  | 0 => step_alike B D 0 D.none
  | n + 1 => step_alike B D (n + 1) (ok_alike B D n)
end
end Fm

namespace Fm
open PySem PySem.Spec PyProof.Rows L2
theorem take_snoc {α : Type} {l : List α} {i : Nat} {x : α} (h : l[i]? = some x) : l.take (i + 1) = l.take i ++ [x] := by
  have hi : i < l.length := (List.getElem?_eq_some_iff.mp h).1
  rw [List.take_succ, h]; rfl
end Fm

namespace PySem
open PySem.Calls PyProof.Rows
/-- enumerate(v) without a start, v told by how its iterator begins -/
theorem fm_enum_new {v : Value} {o : Obj} {Hv : Heap → Prop} (bg : Begins v o Hv) :
    Meets (Builtin.«enumerate.__new__» ⟨[.type "enumerate", v], []⟩) (fun _ R s => Hv s.heap ∧ R (.ok (.ret (.ref (s.heap.push o).objs.size)))
      { s with heap := (s.heap.push o).push { cls := .type "enumerate", data := .fields #[.none, .bool false, .ref s.heap.objs.size, rawInt 0, .none, .none] } }) := by
  refine .of_wp fun prog w A R s hh => ?_
  rcases s with ⟨hp, gs, dr, tk, os⟩
  rcases hh with ⟨hv, hR⟩
  have sE := sub_enumerate
  have stp : ∀ {A1 : Around} {E1 : Value → Shared → Prop} {Q1 : Value → Shared → Prop}, Q1 (.ref hp.objs.size) ⟨hp.push o, gs, dr, tk, os⟩ → wpAny (model prog w) A1 (pyIter v) Q1 E1 ⟨hp, gs, dr, tk, os⟩ := fun q1 => bg.iter prog w _ _ ⟨hp, gs, dr, tk, os⟩ _ hv q1
  wp_walk using stp
  refine wpAny_stack_any fun _ => wpAny_pure ?_
  split
  · rename_i cc _ _ _ _ _
    cases (cc == Value.type "enumerate") <;> (wp_walk using stp; exact ⟨_, rfl, hR⟩)
  · wp_walk using stp
    exact ⟨_, rfl, hR⟩
theorem fm_call_enum {prog : Program} {w : World} {A : Around} {E : Value → Shared → Prop} {s : Shared} {v : Value} {o : Obj} {Hv : Heap → Prop} {Q : Value → Shared → Prop} (bg : Begins v o Hv) (h1 : Hv s.heap)
    (k : ∀ h', IsEnum h' (s.heap.objs.size + 1) s.heap.objs.size 0 .none → h'.get? s.heap.objs.size = some o → (∀ b u, s.heap.get? b = some u → h'.get? b = some u) → Q (.ref (s.heap.objs.size + 1)) { s with heap := h' }) :
    wpAny (model prog w) A (call (.type "enumerate") [v]) Q E s := by
  refine callType_new F.called_enumerate (by decide) (F.typeCall_enumerate_1 _) (F.newCall_enumerate_1 _) (fun obj => F.args_object_init_2 obj _) F.entry_enumerate_new (fm_enum_new bg) ⟨h1, ?_⟩
  have sz : (s.heap.push o).objs.size = s.heap.objs.size + 1 := Heap.size_push ..
  show _ ∧ _
  rw [sz]
  have ie : IsEnum ((s.heap.push o).push { cls := .type "enumerate", data := .fields #[.none, .bool false, .ref s.heap.objs.size, rawInt 0, .none, .none] }) (s.heap.objs.size + 1) s.heap.objs.size 0 .none := by
    have g := Heap.get?_push_size (s.heap.push o) (o := { cls := .type "enumerate", data := .fields #[.none, .bool false, .ref s.heap.objs.size, rawInt 0, .none, .none] }) rfl
    rw [sz] at g
    exact g
  exact ⟨⟨_, ie, rfl⟩, k _ ie (Heap.get?_push_of_some _ (Heap.get?_push_size _ bg.free)) fun b u e => Heap.get?_push_of_some _ (Heap.get?_push_of_some _ e)⟩
end PySem
namespace Fm
open PySem PySem.Spec PyProof.Rows L2
/-- enumerate(t), t a tuple: each item in a new pair -/
def ItE (K : PySem.W.Frag) (a : Addr) : It :=
  ⟨fun i H => ∃ (xs : List V) (x : V), SqT K H a xs ∧ xs[i]? = some x, fun i H v H' => ∃ T x, v = .ref T ∧ H T = none ∧ H' = upd H T (.tup [.int (i : Nat), x]) ∧ ∀ xs, SqT K H a xs → xs[i]? = some x, fun i H => ∃ xs : List V, SqT K H a xs ∧ xs.length = i⟩
theorem turn_enumT {P : Program} {w : World} {K : PySem.W.Frag} {elts : List Expr} {kk : Nat} {tpos : Pos} (a e it : Addr) (nea : a ≠ it) (nee : e ≠ it) (nae : e ≠ a) :
    Turn P w K (.Tuple elts kk tpos) (ItE K a) [e, it] e (fun i h => (∃ old, IsEnum h e it ((i : Nat) : Int) old) ∧ h.IsTupleIter it a i) where
  mem := by simp
  obj := fun i h st b hb => by
    obtain ⟨⟨old, he⟩, ⟨o, ho, hc, hd⟩⟩ := st
    rcases (show b = e ∨ b = it by simpa using hb) with rfl | rfl
    · exact ⟨_, he, fun v q => nomatch q⟩
    · exact ⟨o, ho, fun v q => by rw [hd] at q; cases q⟩
  keep := fun i h h' st k => let ⟨⟨old, he⟩, hi⟩ := st; ⟨⟨old, k e (by simp) _ he⟩, hi.at fun o q => k it (by simp) o q⟩
  item := by
    intro X hP hw hK hc i pins s σ H E I hf st hg
    subst hP hw hK
    obtain ⟨⟨old, he⟩, hit⟩ := st
    obtain ⟨xs, x, hq, hx⟩ := hg
    obtain ⟨its, rv, p, hz⟩ := I.tuple hq
    obtain ⟨u, hu, ru⟩ := rv.get hx
    have hel : e < s.heap.objs.size := Heap.lt_size he
    have hil : it < s.heap.objs.size := by obtain ⟨_, q, _⟩ := hit; exact Heap.lt_size q
    have hlt : i < its.toArray.size := by
      have := (List.getElem?_eq_some_iff.mp hu).1
      simpa using this
    have Dr := Draws.tuple (prog := X.prog) (w := X.w) (A := X.A.in1) (I.ok.hd hc) it a nea its.toArray
    refine wpAny_pyNext_enum_itemC Dr he ⟨hit, p⟩ hlt nee (by simp [nee, nae]) fun y h1 tk hy ho st1 hT hsz hk => ?_
    have ey : y = u := by
      have h2 : its[i]? = some y := by simpa using hy
      rw [hu] at h2
      exact (Option.some.inj h2).symm
    subst ey
    refine ⟨_, rfl, wpAny_letOwnedTupleGo_enum (s := { s with heap := h1, toks := tk + 1 }) ho fun h2 he2 sb => ?_⟩
    have hT2 : h2.get? s.heap.objs.size = some { cls := .type "tuple", data := .seq #[.int i tk, y] } := (sb.2 _ (Nat.ne_of_gt hel)).trans hT
    have nw : ObjOk X.prog X.w (upd H s.heap.objs.size (.tup [.int (i : Nat), x])) h2 s.heap.objs.size (.tup [.int (i : Nat), x]) :=
      ⟨by show 2 ≤ sizeLine; decide, [.int i tk, y], .cons ⟨_, rfl⟩ (.cons ru .nil), ⟨_, hT2, rfl, _, rfl⟩⟩
    have I1 : Inv X pins σ (upd H s.heap.objs.size (.tup [.int (i : Nat), x])) { s with heap := h2, toks := tk + 1 } :=
      I.turnedNew (ch := [e, it]) (fun b ob hb q => (sb.2 b (fun z => hb (by simp [z]))).trans (hk b ob (fun z => hb (by simp [z])) (fun z => hb (by simp [z])) q)) hf (Nat.le_refl _) nw
    refine ⟨.ref s.heap.objs.size, _, I1, rfl, ⟨_, x, rfl, I.hok.fresh (Nat.le_refl _), rfl, fun ys hy => by rw [I.tuple_inj hy hq]; exact hx⟩, ⟨⟨y, ?_⟩, st1.1.at fun o q => (sb.2 it (Ne.symm nee)).trans q⟩, fun b hb => ?_⟩
    · have e1 : ((i + 1 : Nat) : Int) = (i : Int) + 1 := by omega
      rw [e1]
      exact he2
    · have hb' : b < s.heap.objs.size := by
        rcases (show b = e ∨ b = it by simpa using hb) with rfl | rfl
        · exact hel
        · exact hil
      rw [upd_ne (Nat.ne_of_lt hb')]
      exact (hf b hb).1
  done := by
    intro X hP hw hK hc i pins s σ H E I hf st hg
    subst hP hw hK
    obtain ⟨⟨old, he⟩, hit⟩ := st
    obtain ⟨xs, hq, hx⟩ := hg
    obtain ⟨its, rv, p, hz⟩ := I.tuple hq
    obtain ⟨f0, f1, f2, f3, f4, f5⟩ := hf it (by simp)
    have hl := rv.length
    have Dr := Draws.tuple (prog := X.prog) (w := X.w) (A := X.A.in1) (I.ok.hd hc) it a nea its.toArray
    have ei : i = its.toArray.size := by simp; omega
    refine wpAny_pyNext_enum_endD Dr he ⟨by rw [← ei]; exact hit, p⟩ fun h1 eb => ⟨rfl, I.turned (t' := s.toks) (fun b o hb q => eb b o hb q) f0 f1 f3 f4 f5⟩
  self := fun A i s Q E st h => let ⟨⟨_, he⟩, _⟩ := st; wpAny_pyIter_enum he h
def iEnumT (K : PySem.W.Frag) (ta : TA) : TI := fun σ H R => ta σ H fun vs H1 => ∃ a xs, vs = [.ref a] ∧ SqT K H1 a xs ∧ R (ItE K a) H1
theorem pi_enumT {X : Cx} {e : Expr} {ta : TA} {p pos tpos : Pos} {elts : List Expr} {kk : Nat} (hg : Gl X "enumerate") (hm : X.mg "enumerate" = none) (ha : PA X [e] ta) (hs : starEach [e] X.env = [(false, eval e X.env)] := by rfl) :
    PI X (.Tuple elts kk tpos) (.Call (.Name "enumerate" p) [e] [] pos) (iEnumT X.K ta) := by
  refine ⟨fun pins s σ H R I h => ?_⟩
  refine Call_ (ld_blt I hg hm boot_enumerate (PyProof.Rows.callWith_type1 (thn (ha.run pos pins s σ H _ I h) fun us s1 ⟨vs, H1, I1, r1, q1⟩ => ?_) hs rfl))
  obtain ⟨a, xs, ex, hq, q⟩ := q1
  subst ex
  cases r1 with
  | cons r rr =>
    cases rr
    cases r
    obtain ⟨its, rv, p', hz⟩ := I1.tuple hq
    have hal : a < s1.heap.objs.size := by obtain ⟨_, q, _⟩ := p'; exact Heap.lt_size q
    refine fm_call_enum (begins_tuple a its.toArray) p' fun h' he ho hk => wpAny_pyIter_enum he ?_
    have I2 : Inv X pins σ H1 { s1 with heap := h' } := I1.kept (t' := s1.toks) hk
    refine ⟨s1.heap.objs.size + 1, [s1.heap.objs.size + 1, s1.heap.objs.size], _, _, H1, rfl, I2, turn_enumT a (s1.heap.objs.size + 1) s1.heap.objs.size (Nat.ne_of_lt hal) (Nat.succ_ne_self _) (Nat.ne_of_gt (Nat.lt_succ_of_lt hal)), ⟨⟨.none, he⟩, ⟨_, ho, rfl, rfl⟩⟩, fun b hb => ?_, q⟩
    have hle : s1.heap.objs.size ≤ b := by
      rcases (show b = s1.heap.objs.size + 1 ∨ b = s1.heap.objs.size by simpa using hb) with z | z
      · rw [z]; exact Nat.le_add_right _ _
      · rw [z]; exact Nat.le_refl _
    exact I1.fpOk hle (I1.hok.fresh hle)
/-- one of two ways to walk -/
theorem pi_or {X : Cx} {tg iter : Expr} {w1 w2 : TI} (h1 : PI X tg iter w1) (h2 : PI X tg iter w2) : PI X tg iter (fun σ H R => w1 σ H R ∨ w2 σ H R) := by
  refine ⟨fun pins s σ H R I h => ?_⟩
  rcases h with h | h
  · exact h1.run pins s σ H R I h
  · exact h2.run pins s σ H R I h
theorem walk_enumT {K : PySem.W.Frag} {a : Addr} {xs : List V} : Walk (ItE K a) xs.length (fun H => SqT K H a xs) (YPair (fun i => some (.int (i : Nat))) (fun i => xs[i]?)) := by
  refine ⟨fun i _ hi q => ⟨xs, xs[i], q, by simp [hi]⟩, fun _ q => ⟨xs, q, rfl⟩, fun i H v H' _ q y => ?_⟩
  obtain ⟨T, x, h1, h2, h3, h4⟩ := y
  exact ⟨T, .int (i : Nat), x, h1, h2, h3, rfl, h4 xs q⟩
end Fm

namespace Fm
open PySem PySem.Spec PyProof.Rows L2
/-! ### an own error with one attribute -/
/-- what __init__(self, f) promises: self.f = f -/
def spErr (C : Addr) (f : Str) : Sp := fun vs H Q _ => ∃ (a : Addr) (y : V), vs = [.ref a, y] ∧ H a = some (exo a C none) ∧
  ∀ dx, H dx = none → dx ≠ a → Q .non (upd (upd H dx (exd dx [(f, y)])) a (exo a C (some dx)))
structure Err (P : Program) (w : World) (K : PySem.W.Frag) (mg : Str → Option Value) (base : Heap) (x : Str) (f : Str) (C : Addr) : Prop where
  oex : OexC K C
  gl : mg x = some (.ref C)
  ini : ∃ fI fd, PySem.W.findIn K (.ref C) "__init__" = some (some (.ref fI)) ∧ PySem.W.typeIn K (.ref fI) = some (.type "function") ∧ FnOk P w K mg base CX0 1 fI fd ["self", f] (spErr C f) ∧ Binds K fd ["self", f] []
  no : PySem.W.findIn K (.ref C) f = some none
  xf : XfC K C
theorem heap_err {H : Hp} {a d : Addr} {o1 o2 o3 o4 : HO} (ha : H a = none) (hd : d ≠ a) : upd (del (upd (upd (upd H a o1) d o2) a o3) a) d o4 = upd H d o4 := by
  funext b
  by_cases z : b = d
  · rw [z, upd_same, upd_same]
  · rw [upd_ne z, upd_ne z]
    by_cases y : b = a
    · rw [y, del_same, ha]
    · rw [del_ne y, upd_ne y, upd_ne z, upd_ne y]
/-- the end of C(v): the wish, told of the error's own new dict -/
theorem err_in {C : Addr} {f : Str} {v : V} {H1 : Hp} {a : Addr} {Q : XK} {E : XK} (ha : H1 a = none) (q : ∀ d, H1 d = none → Q (.ref C) (some d) (upd H1 d (.xd [(f, v)]))) :
    spErr C f [.ref a, v] (upd H1 a (exo a C none)) (fun u H2 => u = .non ∧ ∃ (d : Addr) (fs : List (Str × V)), H2 a = some (exo a C (some d)) ∧ H2 d = some (exd d fs) ∧ H1 d = none ∧ Q (.ref C) (some d) (upd (del H2 a) d (.xd fs))) E := by
  refine ⟨a, v, rfl, upd_same, fun dx hdx hne => ⟨rfl, dx, [(f, v)], upd_same, by rw [upd_ne hne, upd_same], ?_, ?_⟩⟩
  · rw [upd_ne hne] at hdx; exact hdx
  · rw [heap_err ha hne]
    rw [upd_ne hne] at hdx
    exact q dx hdx
section
variable {X : Cx}
/-- raise C(e) -/
theorem ps_raiseE {x f : Str} {C : Addr} {a : Expr} {ta : TA} {W : WX} {p pos pos2 : Pos} {k : Nat} (hc : X.calm = true) (T : Err X.prog X.w X.K X.mg X.base x f C) (hr : Room k X.A) (hk : 2 ≤ k) (tk : Takes X W) (ha : PA X [a] ta) (hg : Gl X x := by rfl)
    (hdb : (x == ("__debug__" : Str)) = false := by decide) (he : starEach (a :: []) X.env = (false, eval a X.env) :: starEach [] X.env := by rfl) (hpl : (backTo pos (starEach [] X.env)).any (·.1) = false := by rfl) :
    PS X (.Raise (some (.Call (.Name x p) [a] [] pos)) none pos2) (fun _ σ H => tMkO C (spErr C f) [] ta σ H fun cls d H' => W cls d σ H') := by
  obtain ⟨fI, fd, h1, h2, F, b⟩ := T.ini
  exact ps_raise hc tk (pmk_oex (k := 1) T.oex h1 h2 F (hr.mono hk) b .nil (fun _ _ _ _ _ _ _ z => z.elim) hg T.gl ha hdb he hpl)
end
section
variable {P : Program} {w : World} {K : PySem.W.Frag} {mg : Str → Option Value} {base : Heap}
/-- __init__ of an error whose body is self.f = f -/
theorem ok_err {f : Str} {qual : Str} {C fI : Addr} {fd : FuncData} {st : Stmt} (F : Fun K "__init__" qual st fI fd) (S : FnScope ["self", f] ["self", f] (defScope st)) (ox : OexC K C) (no : PySem.W.findIn K (.ref C) f = some none)
    (hb : ∀ (X : Cx), X.N = ([("self" : Str), f] : List Str) → X.env.scope = defScope st → PSs X (defBody st) (tOst X.K f (tVar 0) (tVar 1))) : FnOk P w K mg base CX0 1 fI fd ["self", f] (spErr C f) := by
  refine F.ok S (fun vs H Q E h => ?_) (fun cdv A outer s H vs Q E hr h => ⟨_, hb _ rfl rfl, ?_⟩)
  · obtain ⟨a, y, rfl, _⟩ := h; rfl
  · obtain ⟨a, y, rfl, ha, k⟩ := h
    exact ⟨_, rfl, _, rfl, a, C, rfl, ox, no, .inl ⟨ha, fun dx h1 h2 => k dx h1 h2⟩⟩
end
end Fm

namespace PySem
namespace HandSPX
open PySem.W PySem.Calls PyProof.Rows
section
variable {M : Model} {prog : Program} {w : World} {A : Around} {E : Value → Shared → Prop} {R : Result → Shared → Prop} {h : Heap} {g : Array GenState} {d : Drawn} {t : Nat} {os : OsState}
variable {nm q : Str} {C N : Addr} {bs bm bmB : List Value} {hdct : Bool} {sn : List Str} {sub : List Value} {ab : Bool} {col : Option Bool} {dd : Option Addr} {k0 k1 k2 k3 k5 : Option Value} {B newId initId : String} {kw : List (Str × Value)}
/-! an own error made with keywords: the base's maker passes them by -/
theorem fm_check_new (FX : ExcBaseFacts B newId initId bmB) (hT : ∀ Z : String, bm.contains (.type Z) = bmB.contains (.type Z)) {Q : Unit → Shared → Prop}
    (hC : h.get? C = some (excClassObj nm q C N bs bm hdct sn sub ab col dd k0 k1 k2 k3 k5 newId)) (z : Q () ⟨h, g, d, t, os⟩) : wpAny M A (checkBuiltinCall newId ⟨[.ref C], kw⟩) Q E ⟨h, g, d, t, os⟩ := by
  have c1 : (Value.ref C :: bm).contains (.type B) = true := by rw [List.contains_cons, hT, FX.hasB, Bool.or_true]
  have c2 := FX.noStar
  simp only [checkBuiltinCall, FX.newKind, FX.newSplit, FX.newRow]
  repeat (first
    | refine wpAny_loadPart_at hC ?_
    | (refine wpAny_isSubtype_exc hC ?_; rw [c1])
    | refine wpAny_staticBase_exc hC ?_
    | refine wpAny_madeBy_exc hC ?_
    | simp only [bne_self_eq_false, Bool.false_eq_true, if_false]
    | wp_step)
  exact z
theorem fm_new (FX : ExcBaseFacts B newId initId bmB) (hT : ∀ Z : String, bm.contains (.type Z) = bmB.contains (.type Z))
    (hC : h.get? C = some (excClassObj nm q C N bs bm hdct sn sub ab col dd k0 k1 k2 k3 k5 newId))
    (z : R (.ok (.ret (.ref (h.objs.size + 1)))) ⟨(h.push (W.kdv_tup [])).push (excO C h.objs.size), g, d, t, os⟩) :
    codeAny (model prog w) A (.builtin newId ⟨[.ref C], kw⟩) R ⟨h, g, d, t, os⟩ := by
  have e0 := FX.ends
  have c1 : (Value.ref C :: bm).contains (.type B) = true := by rw [List.contains_cons, hT, FX.hasB, Bool.or_true]
  have c2 : (Value.ref C :: bm).contains (.type "AttributeError") = false := by rw [List.contains_cons, hT, FX.noAttr]; rfl
  have c3 : (Value.ref C :: bm).contains (.type "NameError") = false := by rw [List.contains_cons, hT, FX.noName]; rfl
  have ln : ([] : List Value).length ≤ sizeLine := Nat.zero_le _
  refine codeAny_builtinAt FX.entry ?_
  unfold Builtin.«BaseException.__new__»
  refine wpAt_bind ?_
  show wpAt _ _ _ (stack >>= _) _ _ _
  refine wpAt_bind (wpAt_stack fun _ _ => wpAt_of_wpAny ?_)
  wp_walk
  refine wpAt_of_wpAny ?_
  rw [FX.owner]
  repeat (first
    | with_reducible refine wpAny_madeHere_exc FX.canon hC ?_
    | with_reducible refine wpAny_loadPart_at hC ?_
    | (with_reducible refine wpAny_isSubtype_exc hC ?_; first | rw [c1] | rw [c2] | rw [c3])
    | wp_step)
  show R _ _
  rw [Heap.size_push]
  exact z
theorem fm_type_call (FX : ExcBaseFacts B newId initId bmB) (hT : ∀ Z : String, bm.contains (.type Z) = bmB.contains (.type Z)) {fI : Addr} {Q : Fin → Shared → Prop}
    (hC : h.get? C = some (excClassObj nm q C N bs bm hdct sn sub ab col dd k0 k1 k2 k3 k5 newId))
    (hi : W.Looks (model prog w) h (typeLookup (.ref C) "__init__") (some (.ref fI))) (hb : ∀ self, W.Looks (model prog w) h (bindSpecial (.ref fI) self) (.ref fI, [self]))
    (z : codeAny (model prog w) A (.call (.ref fI) ⟨[.ref (h.objs.size + 1)], kw⟩)
      (fun r s' => match r with | .ok (.ret v) => v = .none ∧ Q (.done (.ret (.ref (h.objs.size + 1)))) s' | .ok _ => False | .error e => E e s')
      ⟨(h.push (W.kdv_tup [])).push (excO C h.objs.size), g, d, t, os⟩) :
    wpAny (model prog w) A (Builtin.«type.__call__» ⟨[.ref C], kw⟩) Q E ⟨h, g, d, t, os⟩ := by
  repeat (first | with_reducible refine wpAny_loadPart_at hC ?_ | with_reducible refine wpAny_madeBy_exc hC ?_ | wp_step)
  refine codeAny_call_builtin_code (Code.quiet_builtin _ FX.quiet) (fm_check_new FX hT hC ?_)
  refine fm_new FX hT hC ?_
  show wpAny _ _ _ _ _ _
  have kk : ∀ b o, h.get? b = some o → ((h.push (W.kdv_tup [])).push (excO C h.objs.size)).get? b = some o := fun b o e => Heap.get?_push_of_some _ (Heap.get?_push_of_some _ e)
  have g1 := kk _ _ hC
  have g2 : ((h.push (W.kdv_tup [])).push (excO C h.objs.size)).get? (h.objs.size + 1) = some (excO C h.objs.size) := by heap_get
  have c1 : (Value.ref C :: bm).contains (.ref C) = true := by simp
  have i1 := hi.keeps kk
  have b1 := (hb (.ref (h.objs.size + 1))).keeps kk
  unfold isInstance
  repeat (first | with_reducible refine wpAny_loadPart_at g2 ?_ | (with_reducible refine wpAny_isSubtype_exc g1 ?_; rw [c1]) | wp_step)
  show wpAny _ _ (typeLookup (.ref C) _) _ _ _
  refine i1.at ?_
  refine wpAny_holding (wpAny_bind (b1.at ?_))
  refine wpAny_bind (wpAny_call (codeAny_mono z fun r s' y => ?_))
  rcases r with e | (v | _ | _ | _) <;> first | exact y | exact y.elim | skip
  obtain ⟨rfl, y⟩ := y
  first
    | exact wpAny_pure (wpAny_pure y)
    | (wp_walk; exact y)
theorem fm_call_kw (FX : ExcBaseFacts B newId initId bmB) (hT : ∀ Z : String, bm.contains (.type Z) = bmB.contains (.type Z)) {fI : Addr}
    (hC : h.get? C = some (excClassObj nm q C N bs bm hdct sn sub ab col dd k0 k1 k2 k3 k5 newId))
    (hi : W.Looks (model prog w) h (typeLookup (.ref C) "__init__") (some (.ref fI))) (hb : ∀ self, W.Looks (model prog w) h (bindSpecial (.ref fI) self) (.ref fI, [self]))
    (z : codeAny (model prog w) (A.under (.builtin "type.__call__" ⟨[.ref C], kw⟩)) (.call (.ref fI) ⟨[.ref (h.objs.size + 1)], kw⟩) (W.InitBack (h.objs.size + 1) R)
      ⟨(h.push (W.kdv_tup [])).push (excO C h.objs.size), g, d, t, os⟩) :
    codeAny (model prog w) A (.call (.ref C) ⟨[], kw⟩) R ⟨h, g, d, t, os⟩ := by
  have f1 := tc_lookup
  have f2 := tc_bind (.ref C)
  have hTy : (⟨h, g, d, t, os⟩ : Shared).TypeIs (.ref C) "type" := ⟨_, hC, rfl⟩
  refine codeAny_of_tree ?_
  show wpAny _ _ (callAny (.ref C) _) _ _ _
  repeat (any_goals (first | assumption | with_reducible refine wpAny_loadPart_at hC ?_ | wp_step))
  refine ⟨rfl, ?_⟩
  refine codeAny_call_builtin_at (Code.quiet_builtin _ (by decide +kernel)) entry_typeCall (wpAny_check_type_call_sub hC (fm_type_call FX hT hC hi hb ?_))
  refine codeAny_mono z fun r s' y => ?_
  rcases r with e | (v | _ | _ | _) <;> exact y
end
end HandSPX
end PySem

namespace Fm
open PySem PySem.Spec PyProof.Rows L2
/-- how __init__(self, f) binds where f comes by its name -/
theorem fun_kbn {K : PySem.W.Frag} {qual f : Str} {st : Stmt} {fI : Addr} {fd : FuncData} (F : Fun K "__init__" qual st fI fd)
    (h : ∀ (kV doc pm : Value) (an : Option Addr) (cdv ct u v : Value), bindArgs (PySem.W.fnOf "__init__" qual (defArgs st) (defBody st) (defScope st) .none kV doc pm an cdv ct) ⟨[u], [(f, v)]⟩ = pure ([(("self" : Str), u), (f, v)] : List (Str × Value))) :
    KBn K fd ["self", f] 1 [f] (fun us ws => us ++ ws) (fun vs zs => vs ++ zs) := by
  obtain ⟨oc, od, kV, doc, pm, an, cdv, ct, osl, rfl, lk, hcd⟩ := F.ex
  refine ⟨fun s us ws _ l1 l2 => ?_, fun r1 r2 => r1.append r2⟩
  match us, ws, l1, l2 with
  | [u], [v], _, _ => exact BindsTo.of_eq (h kV doc pm an cdv ct u v)
section
variable {X : Cx}
/-- C(f = e) -/
def tMkK (C : Addr) (f : Str) (tk : TA) : L2.St → Hp → XK → Prop := fun σ H Q => tk σ H fun zs H1 => zs.length = 1 ∧ ∀ a, H1 a = none → spErr C f (.ref a :: zs) (upd H1 a (exo a C none))
  (fun v H2 => v = .non ∧ ∃ (d : Addr) (fs : List (Str × V)), H2 a = some (exo a C (some d)) ∧ H2 d = some (exd d fs) ∧ H1 d = none ∧ Q (.ref C) (some d) (upd (del H2 a) d (.xd fs))) (fun _ _ _ => False)
theorem pmk_errK {x f : Str} {C fI : Addr} {fd : FuncData} {kws : List Keyword} {tk : TA} {p pos : Pos} {k : Nat} (T : OexC X.K C) (gl : X.mg x = some (.ref C)) (iC : PySem.W.findIn X.K (.ref C) "__init__" = some (some (.ref fI))) (tI : PySem.W.typeIn X.K (.ref fI) = some (.type "function"))
    (F1 : FnOk X.prog X.w X.K X.mg X.base CX0 1 fI fd ["self", f] (spErr C f)) (kb : KBn X.K fd ["self", f] 1 [f] (fun us ws => us ++ ws) (fun vs zs => vs ++ zs)) (hr : Room k X.A) (hk : 2 ≤ k) (hkw : PK X kws tk) (hg : Gl X x := by rfl)
    (hall : (backToKw pos (keywordEach kws X.env)).all (·.1.isSome) = true := by rfl) (hks : (backToKw pos (keywordEach kws X.env)).filterMap (·.1) = [f] := by rfl) (hdb : (x == ("__debug__" : Str)) = false := by decide)
    (hpl : ((backTo pos (starEach [] X.env)).any (·.1) || (backToKw pos (keywordEach kws X.env)).any (·.1.isNone)) = false := by rfl) :
    PMk X (.Call (.Name x p) [] kws pos) (tMkK C f tk) := by
  have hr : Room (1 + 1) X.A := hr.mono hk
  intro pins s σ H Q I h
  obtain ⟨nm, q, N, bs, bm, sn, sub, ab, col, dd, k0, k1, k2, k3, k5, hC, hbm⟩ := T.cls
  refine wpAny_Call_Name_kw (ld_glob I hg gl ?_ hdb)
  refine PySem.W.callWith_KW0 (h₀ := X.base) I.ok.mod.kin T.kC hall ?_ hpl
  refine thn (hkw.run pos pins s σ H _ I h) fun ws s1 ⟨zs, H1, I1, r1, l1, q1⟩ => ⟨I1.kIn, ?_⟩
  rw [hks]
  show wpAny _ _ (call (.ref C) [] ([f].zip ws)) _ _ _
  obtain ⟨hp, g, dr, tk', os⟩ := s1
  have sz : hp.objs.size ≤ hp.objs.size + 1 := Nat.le_succ _
  have fr : H1 (hp.objs.size + 1) = none := I1.hok.fresh sz
  have hq := q1 (hp.objs.size + 1) fr
  have kk : ∀ b o, hp.get? b = some o → ((hp.push (PySem.W.kdv_tup [])).push (PySem.HandSPX.excO C hp.objs.size)).get? b = some o := fun b o e => Heap.get?_push_of_some _ (Heap.get?_push_of_some _ e)
  have gt : ((hp.push (PySem.W.kdv_tup [])).push (PySem.HandSPX.excO C hp.objs.size)).get? (hp.objs.size + 1) = some (PySem.HandSPX.excO C hp.objs.size) := by heap_get
  have I2 : Inv X pins σ (upd H1 (hp.objs.size + 1) (exo (hp.objs.size + 1) C none)) ⟨(hp.push (PySem.W.kdv_tup [])).push (PySem.HandSPX.excO C hp.objs.size), g, dr, tk', os⟩ :=
    I1.laid (t' := tk') (a := hp.objs.size + 1) (o := exo (hp.objs.size + 1) C none) kk sz (exo_ok gt)
  have lw : ws.length = ([f] : List Str).length := r1.length.symm.trans l1
  have r2 : Vals (V.ref (hp.objs.size + 1) :: zs) (Value.ref (hp.objs.size + 1) :: ws) := .cons rfl r1
  refine wpAny_call (PySem.HandSPX.fm_call_kw F.excBase_ValueError (fun Y => PySem.HandSPX.refsVE_contains Y bm hbm) (I1.kIn _ _ hC) (PySem.W.looks_findIn I1.kIn iC) (fun self => PySem.W.bind_fn I1.kIn self tI)
    (codeAny_mono (F1.run _ X.stack _ _ ⟨[Value.ref (hp.objs.size + 1)], [f].zip ws⟩ (Value.ref (hp.objs.size + 1) :: ws) _ _ (fun _ _ _ => False) (hr.make C [] ([f].zip ws)) (I2.env0.make C [] ([f].zip ws)) (kb.to _ [Value.ref (hp.objs.size + 1)] ws I2.kIn rfl lw) r2 hq) fun r s' hq' => ?_))
  cases r with
  | error er => exact hq'.elim
  | ok fl =>
    cases fl with
    | ret u =>
      obtain ⟨v, H2, os2, bare2, un2, hok2, rv, ev, d, fs, ea, ed, hd1, q2⟩ := hq'
      subst ev
      obtain ⟨h2, g2, d2, t2, os'⟩ := s'
      exact ⟨rv, mk_end (raises_own T.exC T.tyC) I1 sz kk un2 hok2 os2 bare2 ea ed hd1 q2⟩
    | next => exact False.elim hq'
    | brk => exact False.elim hq'
    | cont => exact False.elim hq'
/-- isinstance(e, c), e the error that the suite holds, with a dict of its own or none -/
def rIsX (K : PySem.W.Frag) (a : Addr) (cls : Value) (d : Option Addr) : List V → Hp → VK → Prop := fun xs H Q => ∃ (c : V) (cv : Value) (b : Bool) (D : Addr), xs = [.ref a, c] ∧ cls = .ref D ∧ ExcC K D ∧ (∀ u, RelV c u → u = cv) ∧ (d = none ∨ ∃ dd fs, d = some dd ∧ H dd = some (.xd fs)) ∧ PySem.W.kitOne K (.ref D) cv = some b ∧ Q (.bl b) H
theorem call_isX {a : Addr} {cls : Value} {d : Option Addr} {oe : Obj} {pn : List (Addr × Obj)} (hz : Zc cls d oe) (hf : ∃ vs, oe.data = .fields vs) : CallR (X.suite a ((a, oe) :: pn)) (.builtin "isinstance") (rIsX X.K a cls d) := by
  intro pins s σ H xs us Q I r h
  obtain ⟨c, cv, b, D, rfl, rfl, C, hcv, hd, e, q⟩ := h
  cases r with
  | cons rx rr =>
    cases rr with
    | @cons _ uc _ _ rt rr =>
      cases rr
      cases rx
      obtain rfl := hcv _ rt
      obtain ⟨hget, _⟩ := I.pin (a, oe) (List.mem_append_left _ List.mem_cons_self)
      obtain ⟨vs, hv⟩ := hf
      have fin : ∀ od, PySem.W.InstAt s.heap a oe D od → wpAny (model X.prog X.w) (X.suite a ((a, oe) :: pn)).A (call (.builtin "isinstance") [.ref a, uc]) (EP (X.suite a ((a, oe) :: pn)) pins σ Q) (X.suite a ((a, oe) :: pn)).xe s := fun od J =>
        PySem.W.kia_one (PySem.W.kitx_exc (od := od) (ox := oe) (x := a) (by obtain ⟨cd, hc, _⟩ := PySem.W.any_some C.hd; rw [hc]; rfl) C.hg C.hk C.hs C.ha C.hn C.ht C.hm) I.kIn J e (fun z => nomatch z) fun tk => ⟨.bl b, H, I.kept (t' := tk) fun _ _ z => z, rfl, q⟩
      rcases hd with rfl | ⟨dd, fs, rfl, hdd⟩
      · refine fin none ⟨hget, hz.1, by unfold PySem.W.notCls; rw [hv] <;> rfl, by rw [hz.2]; trivial⟩
      · have hx : ObjOk X.prog X.w H s.heap dd (.xd fs) := I.hok dd _ hdd
        obtain ⟨mA, hns, hr⟩ := hx
        obtain ⟨od, ho, hl⟩ := lookIn_ns hns
        exact fin (some od) ⟨hget, hz.1, by unfold PySem.W.notCls; rw [hv] <;> rfl, by rw [hz.2]; exact ho⟩
/-- C(), C an own error without an __init__ of its own -/
theorem pmk_own0 {C : Addr} {bmB : List Value} {B newId initId : String} {x : Str} {p pos : Pos} (FX : ExcBaseFacts B newId initId bmB) (q : PySem.W.excIn X.K C bmB newId = true) (gC : X.mg x = some (.ref C))
    (kC : PySem.W.keepIn X.K (.ref C) = true) (r : Raises X (.ref C)) (hg : Gl X x := by rfl) (hdb : (x == ("__debug__" : Str)) = false := by decide) :
    PMk X (.Call (.Name x p) [] [] pos) (fun _ H Q => Q (.ref C) none H) := by
  intro pins s σ H Q I h
  refine wpAny_Call_Name_kw (ld_glob I hg gC ?_ hdb)
  refine PySem.W.callWith_K0 I.kIn kC ?_
  show wpAny _ _ (call (.ref C) []) _ _ _
  obtain ⟨bm, N, nm, qn, bs, hdct, sn, sub, ab, col, dd, k0, k1, k2, k3, k5, mN, hC, hN, hni, T⟩ := exc_obj I.kIn q
  refine wpAny_call_exc_subT FX T hC hN hni (fun h' e hm => ?_) (Nat.zero_le _)
  exact mk_of I hm r h (I.hok.gone hm.new)
end
end Fm

namespace Fm
open PySem PySem.Spec PyProof.Rows L2
/-! ### the package's own looks at things: rows, names, tables -/
noncomputable def bP (p : Prop) : Bool := @decide p (Classical.propDecidable p)
theorem bP_t {p : Prop} (h : p) : bP p = true := by unfold bP; exact @decide_eq_true p (Classical.propDecidable p) h
theorem bP_f {p : Prop} (h : ¬ p) : bP p = false := by unfold bP; exact @decide_eq_false p (Classical.propDecidable p) h
def NmD (d : PyData) : Prop := ∃ w, d = .str w ∧ IsNm w
def spIsRow : Sp := fun vs H Q _ => ∃ (S : Addr → Prop) (q : Bool) (n : Nat) (x : V) (d : PyData), vs = [x] ∧ Dt S q H n x d ∧ ∀ H', Kp [] H H' → Q (.bl (isRowD d)) H'
def spIsName : Sp := fun vs H Q _ => ∃ (S : Addr → Prop) (q : Bool) (n : Nat) (x : V) (d : PyData), vs = [x] ∧ Dt S q H n x d ∧ Q (.bl (bP (NmD d))) H
/-- a row of lo to hi unlike names -/
def NmsD (lo hi : Nat) (d : PyData) (ws : List Str) : Prop := (d = .list (ws.map .str) ∨ d = .tuple (ws.map .str)) ∧ (∀ w ∈ ws, IsNm w) ∧ ws.Nodup ∧ lo ≤ ws.length ∧ ws.length ≤ hi
def spAreNames : Sp := fun vs H Q _ => ∃ (S : Addr → Prop) (q : Bool) (n : Nat) (x : V) (d : PyData) (lo hi : Nat), vs = [x, .int lo, .int hi] ∧ Dt S q H n x d ∧ ∀ H', Kp [] H H' → Q (.bl (bP (∃ ws, NmsD lo hi d ws))) H'
def TabD (d : PyData) (t : Str × List Str) : Prop := ∃ e, d = .tuple [.str t.1, e] ∧ IsNm t.1 ∧ NmsD 1 4 e t.2
def spIsTable : Sp := fun vs H Q _ => ∃ (S : Addr → Prop) (q : Bool) (n : Nat) (x : V) (d : PyData), vs = [x] ∧ Dt S q H n x d ∧ ∀ H', Kp [] H H' → Q (.bl (bP (∃ t, TabD d t))) H'
theorem abc_mem {c : Nat} : c ∈ abc.cps.toList ↔ 97 ≤ c ∧ c ≤ 122 := by
  constructor
  · intro h
    obtain ⟨n, hn, e⟩ := List.getElem_of_mem h
    rw [abc_size] at hn
    have := abc_at n hn
    rw [List.getElem?_eq_getElem (by rw [abc_size]; exact hn)] at this
    have := Option.some.inj this
    omega
  · intro h
    have := abc_at (c - 97) (by omega)
    have e : 97 + (c - 97) = c := by omega
    rw [e] at this
    exact List.mem_of_getElem? this
theorem DtAll.take {S : Addr → Prop} {q : Bool} {H : Hp} : ∀ {n : Nat} {v : List V} {d : List PyData}, DtAll S q H n v d → ∀ i : Nat, DtAll S q H n (v.take i) (d.take i)
  | _, _, _, .nil, i => by rw [List.take_nil, List.take_nil]; exact .nil
  | _, _, _, .cons a b, 0 => .nil
  | _, _, _, .cons a b, i + 1 => .cons a (DtAll.take b i)
theorem DtAll.strs {S : Addr → Prop} {q : Bool} {H : Hp} {n : Nat} : ∀ {v : List V} {ws : List Str}, DtAll S q H n v (ws.map .str) → v = ws.map V.str
  | [], [], _ => rfl
  | _ :: _, [], h => by cases h
  | [], _ :: _, h => by cases h
  | x :: v, w :: ws, h => by
    cases h with
    | cons a b =>
      cases a
      rw [DtAll.strs b]; rfl
theorem strs_at {us : List Str} {i : Nat} {w : Str} (h : (us.map PyData.str)[i]? = some (.str w)) : us[i]? = some w := by
  rw [List.getElem?_map] at h
  cases e : us[i]? with
  | none => rw [e] at h; cases h
  | some y => rw [e] at h; cases h; rfl
theorem strs_inj : ∀ {us ws : List Str}, us.map PyData.str = ws.map PyData.str → us = ws
  | [], [], _ => rfl
  | [], _ :: _, h => by cases h
  | _ :: _, [], h => by cases h
  | a :: us, b :: ws, h => by
    rw [List.map_cons, List.map_cons] at h
    injection h with h1 h2
    injection h1 with h1
    rw [h1, strs_inj h2]
theorem strs_take {us ws : List Str} {i : Nat} (h : ws.map PyData.str = (us.map PyData.str).take i) : us.take i = ws := by
  rw [← List.map_take] at h
  exact (strs_inj h).symm
theorem cut_take {xs : List V} {i : Nat} (h : i ≤ xs.length) : cutV xs none (some ((i : Nat) : Int)) = xs.take i := by
  have e1 : HT.sIx xs.length xs.length (some ((i : Nat) : Int)) = min i xs.length := HT.sIx_nat _ _ i
  unfold cutV
  rw [e1, HT.sIx_none, List.drop_zero, Nat.sub_zero, Nat.min_eq_left h]
section
variable {P : Program} {w : World} {K : PySem.W.Frag} {mg : Str → Option Value} {base : Heap}
theorem cut_not {n i : Nat} (h : i < n) : ¬ (HT.sIx n 0 none = 0 ∧ HT.sIx n n (some ((i : Nat) : Int)) = n) := by
  rintro ⟨_, e⟩
  rw [HT.sIx_nat] at e
  omega
theorem ok_is_row (B : Bi mg) (D : Dfn K mg "is_row" s_is_row ["thing"]) : Has P w K mg base CX0 "is_row" ["thing"] 1 spIsRow := by
  refine D.has sc_is_row (fun vs H Q E h => ?_) (fun f cdv A outer s H vs Q E hr h => ?_)
  · obtain ⟨S, q, n, x, d, rfl, _⟩ := h; rfl
  · obtain ⟨S, q, n, x, d, rfl, hx, k⟩ := h
    refine ⟨_, (pss_one (ps_ret (pe_callB call_isiT (by rfl) B.isinstance (by decide +kernel) (pa_cons (pv 0) (pa_cons (pe_tup (pa_cons (pe_bltn (v := .ty "list") (by rfl) B.list (by decide +kernel) rfl) (pa_cons (pe_bltn (v := .ty "tuple") (by rfl) B.tuple (by decide +kernel) rfl) pa_nil))) pa_nil))))), ?_⟩
    exact ⟨_, rfl, (by show 2 ≤ sizeLine; decide), fun T hT => ⟨_, T, _, _, _, _, rfl, upd_same, .cons (.ty _) (.cons (.ty _) .nil), (hx.keep (Kp.new hT)).ty, kit_row _, k _ (Kp.new hT)⟩⟩
theorem ok_is_name {tk : Tok} (B : Bi mg) (L : mg "LETTERS" = some (.str abc tk)) (D : Dfn K mg "is_name" s_is_name ["thing"]) : Has P w K mg base CX0 "is_name" ["thing"] 1 spIsName := by
  refine D.has sc_is_name (fun vs H Q E h => ?_) (fun f cdv A outer s H vs Q E hr h => ?_)
  · obtain ⟨S, q, n, x, d, rfl, _⟩ := h; rfl
  · obtain ⟨S, q, n, x, d, rfl, hx, k⟩ := h
    refine ⟨_, (pss_cons (ps_if (PW.pt (pw_or (pt_not (pt_val (pe_callB call_isi (by rfl) B.isinstance (by decide +kernel) (pa_cons (pv 0) (pa_cons (pe_bltn (v := .ty "str") (by rfl) B.str (by decide +kernel) rfl) pa_nil))))) (pw_or1 (pt_not (pt_chain op_le op_le pe_int (pe_callB call_len (by rfl) B.len PySem.boot_len (pa_cons (pv 0) pa_nil)) pe_int)))))
  (pss_one (ps_ret pe_bl))
  pss_nil)
  (pss_cons (ps_for PassesOwn.never rfl (pi_str (pv 0)) (pg_name (i := 1) sc_is_name.nd rfl (by first | exact Or.inl rfl | exact Or.inr rfl))
  (pss_one (ps_if (pt_cmpR op_notIn_sign (pv 1) (pe_glob (v := .str abc) rfl L ⟨_, rfl⟩) (by rfl))
  (pss_one (ps_ret pe_bl))
  pss_nil)))
  (pss_one (ps_ret pe_bl)))), ?_⟩
    refine ⟨_, rfl, _, _, _, _, _, rfl, .ty _, hx.ty, kit_ty (kb_str _), _, rfl, ?_⟩
    cases hx with
    | str z hz =>
      refine iteF ?_
      refine ⟨_, rfl, _, z.length, rfl, ⟨Nat.le_trans hz (by decide), rfl⟩, _, _, rfl, rfl, _, rfl, ?_⟩
      by_cases h1 : 1 ≤ z.length
      · rw [decide_eq_true (show (1 : Int) ≤ (z.length : Int) by omega)]
        refine iteT ?_
        refine ⟨_, _, rfl, rfl, _, rfl, ?_⟩
        by_cases h8 : z.length ≤ 8
        · rw [decide_eq_true (show (z.length : Int) ≤ 8 by omega)]
          refine iteF ?_
          refine ⟨_, rfl, z, rfl, ?_⟩
          refine for_it walk_str (fun i σ H' => (∃ v : Option V, σ = [some (.str z), v]) ∧ H' = H ∧ ∀ j c, j < i → z.cps[j]? = some c → 97 ≤ c ∧ c ≤ 122) ⟨⟨none, rfl⟩, rfl, fun j c h => absurd h (by omega)⟩ (fun _ _ _ _ _ => trivial) ?_ ?_
          · rintro i v σ H1 H2 hi ⟨⟨v0, rfl⟩, rfl, hj⟩ ⟨rfl, c, hc, rfl⟩
            refine ⟨_, rfl, c, abc, rfl, rfl, _, rfl, ?_⟩
            by_cases hm : c ∈ abc.cps.toList
            · rw [decide_eq_true hm]
              refine iteF ?_
              refine ⟨⟨_, rfl⟩, rfl, fun j c' h e => ?_⟩
              by_cases z' : j = i
              · rw [z', hc] at e
                cases e
                exact abc_mem.mp hm
              · exact hj j c' (by omega) e
            · rw [decide_eq_false hm]
              refine iteT ?_
              rw [bP_f] at k
              · exact k
              · rintro ⟨w', e, n1, n2, n3⟩
                cases e
                exact hm (abc_mem.mpr (n3 c (by
                  have : z.cps.toList[i]? = some c := by simpa using hc
                  exact List.mem_of_getElem? this)))
          · rintro σ H1 ⟨⟨v0, rfl⟩, rfl, hj⟩
            rw [bP_t] at k
            · exact k
            · refine ⟨z, rfl, h1, h8, fun c hc => ?_⟩
              obtain ⟨j, hj', e⟩ := List.getElem_of_mem hc
              have hj2 : j < z.cps.size := by simpa using hj'
              exact hj j c hj2 (by rw [← e]; simp [hj2])
        · rw [decide_eq_false (show ¬ (z.length : Int) ≤ 8 by omega)]
          refine iteT ?_
          rw [bP_f] at k
          · exact k
          · rintro ⟨w', e, n1, n2, n3⟩
            cases e
            exact h8 n2
      · rw [decide_eq_false (show ¬ (1 : Int) ≤ (z.length : Int) by omega)]
        refine iteF ?_
        refine ⟨_, rfl, ?_⟩
        refine iteT ?_
        rw [bP_f] at k
        · exact k
        · rintro ⟨w', e, n1, n2, n3⟩
          cases e
          exact h1 n1
    | _ =>
      refine iteT (iteT ?_)
      rw [bP_f] at k
      · exact k
      · rintro ⟨w', e, _⟩
        cases e
theorem ok_are_names (B : Bi mg) (D : Dfn K mg "are_names" s_are_names ["thing", "least", "most"]) (G_is_row : Has P w K mg base CX0 "is_row" ["thing"] 1 spIsRow) (G_is_name : Has P w K mg base CX0 "is_name" ["thing"] 1 spIsName) :
    Has P w K mg base CX0 "are_names" ["thing", "least", "most"] 2 spAreNames := by
  refine D.has sc_are_names (fun vs H Q E h => ?_) (fun f cdv A outer s H vs Q E hr h => ?_)
  · obtain ⟨S, q, n, x, d, lo, hi, rfl, _⟩ := h; rfl
  · obtain ⟨S, q, n, x, d, lo, hi, rfl, hx, k⟩ := h
    refine ⟨_, (pss_cons (ps_if (PW.pt (pw_or (pt_not (pt_val (pe_has G_is_row hr (pa_cons (pv 0) pa_nil)))) (pw_or1 (pt_not (pt_chain op_le op_le (pv 1) (pe_callB call_len (by rfl) B.len PySem.boot_len (pa_cons (pv 0) pa_nil)) (pv 2))))))
  (pss_one (ps_ret pe_bl))
  pss_nil)
  (pss_cons (ps_for PassesOwn.never rfl (pi_or (pi_enum (by rfl) B.enumerate (pa_cons (pv 0) pa_nil)) (pi_enumT (by rfl) B.enumerate (pa_cons (pv 0) pa_nil))) (pg_tup rfl (pgs_cons (pg_name (i := 3) sc_are_names.nd rfl (by first | exact Or.inl rfl | exact Or.inr rfl)) (pgs_cons (pg_name (i := 4) sc_are_names.nd rfl (by first | exact Or.inl rfl | exact Or.inr rfl)) pgs_nil)))
  (pss_one (ps_if (PW.pt (pw_or (pt_not (pt_val (pe_has G_is_name hr (pa_cons (pv 4) pa_nil)))) (pw_or1 (pt_cmpR op_in_seq (pv 4) (pe_slice (sl_list.or sl_tup) (pv 0) po_none (po_some (pv 3))) (by rfl)))))
  (pss_one (ps_ret pe_bl))
  pss_nil)))
  (pss_one (ps_ret pe_bl)))), ?_⟩
    refine ⟨_, rfl, S, q, n, x, d, rfl, hx, fun H1 k1 => ⟨_, rfl, ?_⟩⟩
    have hx1 := hx.keep k1
    by_cases hd : isRowD d = true
    · rw [hd]
      rcases (show (∃ ds, d = .list ds) ∨ ∃ ds, d = .tuple ds by cases d <;> first | exact .inl ⟨_, rfl⟩ | exact .inr ⟨_, rfl⟩ | cases hd) with ⟨ds, rfl⟩ | ⟨ds, rfl⟩
      · -- a list
        cases hx1 with
        | @lst m p xs _ rx lx ax =>
          have hx1 : Dt S q H1 (m + 1) (.ref p) (.list ds) := .lst rx lx ax
          have el : xs.length = ds.length := ax.len
          refine iteF ?_
          refine ⟨_, rfl, _, rfl, _, _, rfl, .inl ⟨_, .inl rx, rfl⟩, _, _, rfl, rfl, _, rfl, ?_⟩
          have no : ∀ {p : Prop}, (∀ ws, NmsD lo hi (.list ds) ws → ds.length = ws.length) := fun {p} ws h => by
            rcases h.1 with e | e
            all_goals first | (cases e; rw [List.length_map]) | cases e
          by_cases h1 : lo ≤ xs.length
          · rw [decide_eq_true (show (lo : Int) ≤ (xs.length : Int) by omega)]
            refine iteT ?_
            refine ⟨_, rfl, _, _, rfl, rfl, _, rfl, ?_⟩
            by_cases h2 : xs.length ≤ hi
            · rw [decide_eq_true (show (xs.length : Int) ≤ (hi : Int) by omega)]
              refine iteF ?_
              refine .inl ⟨_, rfl, p, xs, rfl, .inl rx, ?_⟩
              refine for_it (walk_enum (xs := xs)) (fun i σ H' => (∃ v w : Option V, σ = [some (.ref p), some (.int lo), some (.int hi), v, w]) ∧ Kp [] H1 H' ∧ ∃ ws : List Str, ds.take i = ws.map .str ∧ (∀ w ∈ ws, IsNm w) ∧ ws.Nodup) ⟨⟨none, none, rfl⟩, Kp.refl _, [], rfl, (fun w h => nomatch h), List.nodup_nil⟩ (fun i σ H' _ ⟨_, k2, _⟩ => .inl (k2.rd (fun z => nomatch z) rx)) ?_ ?_
              · rintro i v σ H2 H3 hi' ⟨⟨v0, w0, rfl⟩, k2, ws, e1, e2, e3⟩ ⟨T, a1, y, rfl, hT, rfl, ea, ey⟩
                cases ea
                obtain ⟨dy, hdy, dt⟩ := ax.getV ey
                have k3 : Kp [] H1 (upd H2 T (.tup [.int (i : Nat), y])) := k2.snoc hT
                refine ⟨T, _, rfl, SqT.of upd_same, rfl, _, _, rfl, _, _, rfl, rfl, ?_⟩
                refine ⟨_, rfl, S, q, m, y, dy, rfl, dt.keep k3, _, rfl, ?_⟩
                by_cases hn : NmD dy
                · rw [bP_t hn]
                  refine iteF ?_
                  obtain ⟨w1, rfl, nw⟩ := hn
                  cases dt with
                  | str _ hz =>
                    have et : xs.take i = ws.map V.str := DtAll.strs (by rw [← e1]; exact ax.take i)
                    refine ⟨_, rfl, _, rfl, _, rfl, _, rfl, .inl ⟨p, xs, rfl, .inl (k3.rd (fun z => nomatch z) rx), fun P' hP => ⟨P', _, rfl, .inl (SqL.of upd_same), rfl, by rw [cut_take (by omega), et]; exact flat_strs ws, ?_⟩⟩⟩
                    rw [cut_take (by omega)]
                    rw [et, inV_strs]
                    refine ⟨_, rfl, ?_⟩
                    by_cases hm : w1 ∈ ws
                    · rw [decide_eq_true hm]
                      refine iteT ?_
                      rw [bP_f] at k
                      · exact k _ (k1.trans (k3.snoc hP))
                      · rintro ⟨us, hu⟩
                        have eu : ds = us.map .str := by
                          rcases hu.1 with e | e
                          all_goals first | (cases e; rfl) | cases e
                        have h3 : us[i]? = some w1 := strs_at (eu ▸ hdy)
                        have h4 : us.take i = ws := strs_take (by rw [← e1, eu])
                        exact notin_take hu.2.2.1 h3 (by rw [h4]; exact hm)
                    · rw [decide_eq_false hm]
                      refine iteF ?_
                      refine ⟨⟨_, _, rfl⟩, k3.snoc hP, ws ++ [w1], ?_, ?_, ?_⟩
                      · rw [take_snoc hdy, e1, List.map_append]; rfl
                      · intro w' h
                        rcases List.mem_append.mp h with h | h
                        · exact e2 w' h
                        · rw [List.mem_singleton.mp h]; exact nw
                      · exact nd_snoc e3 hm
                · rw [bP_f hn]
                  refine iteT (iteT ?_)
                  rw [bP_f] at k
                  · exact k _ (k1.trans k3)
                  · rintro ⟨us, hu⟩
                    have eu : ds = us.map .str := by
                      rcases hu.1 with e | e
                      all_goals first | (cases e; rfl) | cases e
                    subst eu
                    rw [List.getElem?_map] at hdy
                    cases e : us[i]? with
                    | none => rw [e] at hdy; cases hdy
                    | some w' =>
                      rw [e] at hdy
                      cases hdy
                      exact hn ⟨w', rfl, hu.2.1 w' (List.mem_of_getElem? e)⟩
              · rintro σ H2 ⟨⟨v0, w0, rfl⟩, k2, ws, e1, e2, e3⟩
                rw [el, List.take_length] at e1
                rw [bP_t] at k
                · exact k _ (k1.trans k2)
                · refine ⟨ws, .inl (by rw [e1]), e2, e3, ?_, ?_⟩
                  · have := congrArg List.length e1
                    rw [List.length_map] at this; omega
                  · have := congrArg List.length e1
                    rw [List.length_map] at this; omega
            · rw [decide_eq_false (show ¬ (xs.length : Int) ≤ (hi : Int) by omega)]
              refine iteT ?_
              rw [bP_f] at k
              · exact k _ k1
              · rintro ⟨ws, h⟩
                have := no (p := True) ws h
                have := h.2.2.2.2
                omega
          · rw [decide_eq_false (show ¬ (lo : Int) ≤ (xs.length : Int) by omega)]
            refine iteF ?_
            refine ⟨_, rfl, ?_⟩
            refine iteT ?_
            rw [bP_f] at k
            · exact k _ k1
            · rintro ⟨ws, h⟩
              have := no (p := True) ws h
              have := h.2.2.2.1
              omega
      · -- a tuple
        cases hx1 with
        | @tup m p xs _ rx lx ax =>
          have hx1 : Dt S q H1 (m + 1) (.ref p) (.tuple ds) := .tup rx lx ax
          have el : xs.length = ds.length := ax.len
          refine iteF ?_
          refine ⟨_, rfl, _, rfl, _, _, rfl, .inr ⟨_, .inl (.inl rx), rfl⟩, _, _, rfl, rfl, _, rfl, ?_⟩
          have no : ∀ {p : Prop}, (∀ ws, NmsD lo hi (.tuple ds) ws → ds.length = ws.length) := fun {p} ws h => by
            rcases h.1 with e | e
            all_goals first | (cases e; rw [List.length_map]) | cases e
          by_cases h1 : lo ≤ xs.length
          · rw [decide_eq_true (show (lo : Int) ≤ (xs.length : Int) by omega)]
            refine iteT ?_
            refine ⟨_, rfl, _, _, rfl, rfl, _, rfl, ?_⟩
            by_cases h2 : xs.length ≤ hi
            · rw [decide_eq_true (show (xs.length : Int) ≤ (hi : Int) by omega)]
              refine iteF ?_
              refine .inr ⟨_, rfl, p, xs, rfl, .inl (.inl rx), ?_⟩
              refine for_it (walk_enumT (xs := xs)) (fun i σ H' => (∃ v w : Option V, σ = [some (.ref p), some (.int lo), some (.int hi), v, w]) ∧ Kp [] H1 H' ∧ ∃ ws : List Str, ds.take i = ws.map .str ∧ (∀ w ∈ ws, IsNm w) ∧ ws.Nodup) ⟨⟨none, none, rfl⟩, Kp.refl _, [], rfl, (fun w h => nomatch h), List.nodup_nil⟩ (fun i σ H' _ ⟨_, k2, _⟩ => .inl (.inl (k2.tp _ _ rx))) ?_ ?_
              · rintro i v σ H2 H3 hi' ⟨⟨v0, w0, rfl⟩, k2, ws, e1, e2, e3⟩ ⟨T, a1, y, rfl, hT, rfl, ea, ey⟩
                cases ea
                obtain ⟨dy, hdy, dt⟩ := ax.getV ey
                have k3 : Kp [] H1 (upd H2 T (.tup [.int (i : Nat), y])) := k2.snoc hT
                refine ⟨T, _, rfl, SqT.of upd_same, rfl, _, _, rfl, _, _, rfl, rfl, ?_⟩
                refine ⟨_, rfl, S, q, m, y, dy, rfl, dt.keep k3, _, rfl, ?_⟩
                by_cases hn : NmD dy
                · rw [bP_t hn]
                  refine iteF ?_
                  obtain ⟨w1, rfl, nw⟩ := hn
                  cases dt with
                  | str _ hz =>
                    have et : xs.take i = ws.map V.str := DtAll.strs (by rw [← e1]; exact ax.take i)
                    refine ⟨_, rfl, _, rfl, _, rfl, _, rfl, .inr ⟨p, xs, rfl, .inl (.inl (k3.tp _ _ rx)), cut_not (by omega), fun P' hP => ⟨P', _, rfl, .inr (SqT.of upd_same), rfl, by rw [cut_take (by omega), et]; exact flat_strs ws, ?_⟩⟩⟩
                    rw [cut_take (by omega)]
                    rw [et, inV_strs]
                    refine ⟨_, rfl, ?_⟩
                    by_cases hm : w1 ∈ ws
                    · rw [decide_eq_true hm]
                      refine iteT ?_
                      rw [bP_f] at k
                      · exact k _ (k1.trans (k3.snoc hP))
                      · rintro ⟨us, hu⟩
                        have eu : ds = us.map .str := by
                          rcases hu.1 with e | e
                          all_goals first | (cases e; rfl) | cases e
                        have h3 : us[i]? = some w1 := strs_at (eu ▸ hdy)
                        have h4 : us.take i = ws := strs_take (by rw [← e1, eu])
                        exact notin_take hu.2.2.1 h3 (by rw [h4]; exact hm)
                    · rw [decide_eq_false hm]
                      refine iteF ?_
                      refine ⟨⟨_, _, rfl⟩, k3.snoc hP, ws ++ [w1], ?_, ?_, ?_⟩
                      · rw [take_snoc hdy, e1, List.map_append]; rfl
                      · intro w' h
                        rcases List.mem_append.mp h with h | h
                        · exact e2 w' h
                        · rw [List.mem_singleton.mp h]; exact nw
                      · exact nd_snoc e3 hm
                · rw [bP_f hn]
                  refine iteT (iteT ?_)
                  rw [bP_f] at k
                  · exact k _ (k1.trans k3)
                  · rintro ⟨us, hu⟩
                    have eu : ds = us.map .str := by
                      rcases hu.1 with e | e
                      all_goals first | (cases e; rfl) | cases e
                    subst eu
                    rw [List.getElem?_map] at hdy
                    cases e : us[i]? with
                    | none => rw [e] at hdy; cases hdy
                    | some w' =>
                      rw [e] at hdy
                      cases hdy
                      exact hn ⟨w', rfl, hu.2.1 w' (List.mem_of_getElem? e)⟩
              · rintro σ H2 ⟨⟨v0, w0, rfl⟩, k2, ws, e1, e2, e3⟩
                rw [el, List.take_length] at e1
                rw [bP_t] at k
                · exact k _ (k1.trans k2)
                · refine ⟨ws, .inr (by rw [e1]), e2, e3, ?_, ?_⟩
                  · have := congrArg List.length e1
                    rw [List.length_map] at this; omega
                  · have := congrArg List.length e1
                    rw [List.length_map] at this; omega
            · rw [decide_eq_false (show ¬ (xs.length : Int) ≤ (hi : Int) by omega)]
              refine iteT ?_
              rw [bP_f] at k
              · exact k _ k1
              · rintro ⟨ws, h⟩
                have := no (p := True) ws h
                have := h.2.2.2.2
                omega
          · rw [decide_eq_false (show ¬ (lo : Int) ≤ (xs.length : Int) by omega)]
            refine iteF ?_
            refine ⟨_, rfl, ?_⟩
            refine iteT ?_
            rw [bP_f] at k
            · exact k _ k1
            · rintro ⟨ws, h⟩
              have := no (p := True) ws h
              have := h.2.2.2.1
              omega
    · rw [Bool.eq_false_iff.mpr hd]
      refine iteT (iteT ?_)
      rw [bP_f] at k
      · exact k _ k1
      · rintro ⟨ws, h⟩
        rcases h.1 with e | e
        all_goals (rw [e] at hd; exact hd rfl)
theorem ok_is_table (B : Bi mg) (D : Dfn K mg "is_table" s_is_table ["thing"]) (G_is_name : Has P w K mg base CX0 "is_name" ["thing"] 1 spIsName) (G_are_names : Has P w K mg base CX0 "are_names" ["thing", "least", "most"] 2 spAreNames) :
    Has P w K mg base CX0 "is_table" ["thing"] 3 spIsTable := by
  refine D.has sc_is_table (fun vs H Q E h => ?_) (fun f cdv A outer s H vs Q E hr h => ?_)
  · obtain ⟨S, q, n, x, d, rfl, _⟩ := h; rfl
  · obtain ⟨S, q, n, x, d, rfl, hx, k⟩ := h
    have hr1 : Room 1 _ := hr.mono (by decide)
    refine ⟨_, (pss_one (ps_ret (pe_and (pe_callB call_isi (by rfl) B.isinstance (by decide +kernel) (pa_cons (pv 0) (pa_cons (pe_bltn (v := .ty "tuple") (by rfl) B.tuple (by decide +kernel) rfl) pa_nil))) (pe_and (pe_cmpR op_eq (pe_callB call_len (by rfl) B.len PySem.boot_len (pa_cons (pv 0) pa_nil)) pe_int (nomark _)) (pe_and (pe_has G_is_name hr1 (pa_cons (pe_ix ix_tup (pv 0) pe_int (fun _ _ => rfl)) pa_nil)) (pe_one (pe_has G_are_names hr (pa_cons (pe_ix ix_tup (pv 0) pe_int (fun _ _ => rfl)) (pa_cons pe_int (pa_cons pe_int pa_nil)))))))))), ?_⟩
    refine ⟨_, rfl, _, _, _, _, _, rfl, .ty _, hx.ty, kit_ty (kb_tuple _), _, rfl, ?_⟩
    cases hx with
    | @tup m p xs ds rx lx ax =>
      refine iteT ?_
      refine ⟨_, rfl, _, _, rfl, .inr ⟨_, .inl (.inl rx), rfl⟩, rfl, _, rfl, ?_⟩
      by_cases h2 : xs.length = 2
      · rw [decide_eq_true (show V.int (xs.length : Int) = V.int 2 by rw [h2]; rfl)]
        refine iteT ?_
        obtain ⟨x0, x1, rfl⟩ : ∃ x0 x1, xs = [x0, x1] := by
          match xs, h2 with
          | [a, b], _ => exact ⟨a, b, rfl⟩
        cases ax with
        | @cons _ _ _ d0 _ a0 ax =>
          cases ax with
          | @cons _ _ _ d1 _ a1 ax =>
            cases ax
            refine ⟨_, rfl, p, _, _, x0, rfl, rfl, .inl (.inl rx), rfl, S, q, m, x0, d0, rfl, a0, _, rfl, ?_⟩
            by_cases h0 : NmD d0
            · rw [bP_t h0]
              refine iteT ?_
              refine ⟨_, rfl, p, _, _, x1, rfl, rfl, .inl (.inl rx), rfl, S, q, m, x1, d1, 1, 4, rfl, a1, fun H1 k1 => ?_⟩
              obtain ⟨w0, rfl, nw⟩ := h0
              by_cases hw : ∃ ws, NmsD 1 4 d1 ws
              · rw [bP_t hw]
                obtain ⟨ws, hw⟩ := hw
                rw [bP_t ⟨(w0, ws), d1, rfl, nw, hw⟩] at k
                exact k H1 k1
              · rw [bP_f hw]
                rw [bP_f] at k
                · exact k H1 k1
                · rintro ⟨t, e, h, _, h'⟩
                  cases h
                  exact hw ⟨_, h'⟩
            · rw [bP_f h0]
              refine iteF ?_
              rw [bP_f] at k
              · exact k H (Kp.refl H)
              · rintro ⟨t, e, h, h', _⟩
                cases h
                exact h0 ⟨_, rfl, h'⟩
      · rw [decide_eq_false (fun z => h2 (by injection z with z; omega))]
        refine iteF ?_
        rw [bP_f] at k
        · exact k H (Kp.refl H)
        · rintro ⟨t, e, h, _⟩
          cases h
          exact h2 ax.len
    | _ =>
      refine iteF ?_
      rw [bP_f] at k
      · exact k H (Kp.refl H)
      · rintro ⟨t, e, h, _⟩
        cases h
end
end Fm

namespace Fm
open PySem PySem.Spec PyProof.Rows L2
theorem DtAll.set {S : Addr → Prop} {q : Bool} {H : Hp} : ∀ {n : Nat} {v : List V} {d : List PyData}, DtAll S q H n v d → ∀ (i : Nat) {x : V} {e : PyData}, Dt S q H n x e → DtAll S q H n (v.set i x) (d.set i e)
  | _, _, _, .nil, i, _, _, _ => .nil
  | _, _, _, .cons a b, 0, _, _, h => .cons h b
  | _, _, _, .cons a b, i + 1, _, _, h => .cons a (DtAll.set b i h)
theorem catA_in {K : PySem.W.Frag} {H : Hp} {a b : Addr} {xs ys : List V} {Q : VK} (ha : H a = some (.tup xs)) (hb : H b = some (.tup ys)) (hl : xs.length + ys.length ≤ sizeLine) (q : ∀ r H', Kp [] H H' → H' r = some (.tup (xs ++ ys)) → Q (.ref r) H') : rCatA K (.ref a) (.ref b) H Q := by
  refine ⟨a, b, xs, ys, rfl, rfl, .inl (.inl ha), .inl (.inl hb), hl, fun e => ?_, fun _ e => ?_, fun _ _ p hp => q p _ (Kp.new hp) upd_same⟩
  · exact q b H (Kp.refl _) (by rw [e, List.nil_append]; exact hb)
  · exact q a H (Kp.refl _) (by rw [e, List.append_nil]; exact ha)
theorem cutN_drop {xs : List V} {i : Nat} (h : i ≤ xs.length) : cutV xs (some ((i : Nat) : Int)) none = xs.drop i := by
  unfold cutV
  rw [show HT.sIx xs.length 0 (some ((i : Nat) : Int)) = min i xs.length from HT.sIx_nat _ _ i, HT.sIx_none, Nat.min_eq_left h]
  exact List.take_of_length_le (by rw [List.length_drop]; omega)
theorem ixN_nat {n j : Nat} (h : j < n) : ixN n (j : Int) = some j := by
  unfold ixN
  rw [if_pos (by omega), if_pos (by omega), Int.toNat_natCast]
theorem atI_nat {α : Type} {xs : List α} {k : Nat} {x : α} (h : xs[k]? = some x) : atI xs (k : Int) = some x := atI_of (by omega) (by simpa using h)
def spInt : Sp := fun vs H Q _ => ∃ (S : Addr → Prop) (q : Bool) (n : Nat) (x : V) (d : PyData), vs = [x] ∧ Dt S q H n x d ∧ Q (.bl (isI d && !isB d)) H
def RwAt (H : Hp) (p : Addr) (xs : List V) : Prop := Rd H p (.lst xs) ∨ H p = some (.tup xs)
theorem RwAt.keep {H H' : Hp} {p : Addr} {xs : List V} (h : RwAt H p xs) (k : Kp [] H H') : RwAt H' p xs := h.elim (fun h => .inl (k.rd (fun z => nomatch z) h)) (fun h => .inr (k.tp _ _ h))
theorem RwAt.sq {H : Hp} {K : PySem.W.Frag} {p : Addr} {xs : List V} (h : RwAt H p xs) : SqL K H p xs ∨ SqT K H p xs := h.elim (fun h => .inl (.inl h)) (fun h => .inr (.inl (.inl h)))
theorem RwAt.len {H : Hp} {K : PySem.W.Frag} {p : Addr} {xs : List V} (h : RwAt H p xs) : LenV K (.ref p) H xs.length := h.elim (fun h => .inl ⟨_, .inl h, rfl⟩) (fun h => .inr ⟨_, .inl (.inl h), rfl⟩)
theorem RwAt.ix {H : Hp} {K : PySem.W.Frag} {p : Addr} {xs : List V} {i : Nat} {v : V} {Q : VK} (h : RwAt H p xs) (e : xs[i]? = some v) (q : Q v H) : rIxL K (.ref p) (.int (i : Int)) H Q ∨ rIxT K (.ref p) (.int (i : Int)) H Q :=
  h.elim (fun h => .inl ⟨p, xs, _, v, rfl, rfl, .inl h, atI_nat e, q⟩) (fun h => .inr ⟨p, xs, _, v, rfl, rfl, .inl (.inl h), atI_nat e, q⟩)
theorem Dt.row {S : Addr → Prop} {q : Bool} {H : Hp} {n : Nat} {x : V} {d : PyData} (h : Dt S q H n x d) (hd : isRowD d = true) : ∃ ds m p xs, x = .ref p ∧ n = m + 1 ∧ RwAt H p xs ∧ xs.length ≤ 1000000 ∧ S p ∧ DtAll S q H m xs ds ∧ ((d = .list ds ∧ isT d = false ∧ Rd H p (.lst xs)) ∨ (d = .tuple ds ∧ isT d = true ∧ H p = some (.tup xs))) := by
  cases h with
  | @lst m p xs ds rx lx ax => exact ⟨ds, m, p, xs, rfl, rfl, .inl rx, lx.1, lx.2, ax, .inl ⟨rfl, rfl, rx⟩⟩
  | @tup m p xs ds rx lx ax => exact ⟨ds, m, p, xs, rfl, rfl, .inr rx, lx.1, lx.2, ax, .inr ⟨rfl, rfl, rx⟩⟩
  | _ => cases hd
end Fm

namespace Fm
open PySem PySem.Spec PyProof.Rows L2
/-! ### data of tuples alone: nothing changes it -/
abbrev TupH (H : Hp) : Addr → Prop := fun a => ∃ xs, H a = some (.tup xs)
abbrev Im (H : Hp) (n : Nat) (v : V) (d : PyData) : Prop := Dt (TupH H) true H n v d
abbrev ImAll (H : Hp) (n : Nat) (v : List V) (d : List PyData) : Prop := DtAll (TupH H) true H n v d
theorem tupH_keep {ms : List Addr} {H H' : Hp} (k : Kp ms H H') (a : Addr) (o : HO) (s : TupH H a) (e : H a = some o) : H' a = some o := by
  obtain ⟨xs, h⟩ := s
  rw [h] at e
  cases e
  exact k.tp a xs h
theorem Im.kp {ms : List Addr} {H H' : Hp} (k : Kp ms H H') {n : Nat} {v : V} {d : PyData} (h : Im H n v d) : Im H' n v d := Dt.keepS (fun a o s e => tupH_keep k a o s e) (fun a ⟨xs, h⟩ => ⟨xs, k.tp a xs h⟩) h
theorem ImAll.kp {ms : List Addr} {H H' : Hp} (k : Kp ms H H') {n : Nat} {v : List V} {d : List PyData} (h : ImAll H n v d) : ImAll H' n v d := DtAll.keepS (fun a o s e => tupH_keep k a o s e) (fun a ⟨xs, h⟩ => ⟨xs, k.tp a xs h⟩) h
/-! ### tables -/
def dTab (t : Str × List Str) : PyData := .tuple [.str t.1, .tuple (t.2.map .str)]
def dTabs (tbs : List (Str × List Str)) : PyData := .tuple (tbs.map dTab)
inductive TabsD : List PyData → List (Str × List Str) → Prop
  | nil : TabsD [] []
  | cons {d : PyData} {ds : List PyData} {t : Str × List Str} {ts : List (Str × List Str)} : TabD d t → TabsD ds ts → TabsD (d :: ds) (t :: ts)
theorem TabsD.len : ∀ {ds : List PyData} {ts : List (Str × List Str)}, TabsD ds ts → ds.length = ts.length
  | _, _, .nil => rfl
  | _, _, .cons _ h => congrArg (· + 1) h.len
theorem TabsD.snoc : ∀ {ds : List PyData} {ts : List (Str × List Str)} {d : PyData} {t : Str × List Str}, TabsD ds ts → TabD d t → TabsD (ds ++ [d]) (ts ++ [t])
  | _, _, _, _, .nil, h => .cons h .nil
  | _, _, _, _, .cons a b, h => .cons a (b.snoc h)
theorem TabsD.take : ∀ {ds : List PyData} {ts : List (Str × List Str)}, TabsD ds ts → ∀ i : Nat, TabsD (ds.take i) (ts.take i)
  | _, _, .nil, i => by rw [List.take_nil, List.take_nil]; exact .nil
  | _, _, .cons a b, 0 => .nil
  | _, _, .cons a b, i + 1 => .cons a (b.take i)
theorem TabsD.get : ∀ {ds : List PyData} {ts : List (Str × List Str)}, TabsD ds ts → ∀ {i : Nat} {d : PyData}, ds[i]? = some d → ∃ t, ts[i]? = some t ∧ TabD d t
  | _, _, .cons a b, 0, d, h => by cases h; exact ⟨_, rfl, a⟩
  | _, _, .cons a b, i + 1, d, h => b.get (i := i) h
theorem nms_inj {lo hi : Nat} {d : PyData} {ws ws' : List Str} (h : NmsD lo hi d ws) (h' : NmsD lo hi d ws') : ws = ws' := by
  rcases h.1 with e | e <;> rcases h'.1 with e' | e' <;> rw [e] at e'
  · exact strs_inj (PyData.list.inj e')
  · cases e'
  · cases e'
  · exact strs_inj (PyData.tuple.inj e')
theorem TabD.inj {d : PyData} {t t' : Str × List Str} (h : TabD d t) (h' : TabD d t') : t = t' := by
  obtain ⟨e, rfl, _, n⟩ := h
  obtain ⟨e', q, _, n'⟩ := h'
  injection q with q
  injection q with q1 q2
  injection q2 with q2 q3
  injection q1 with q1
  subst q2
  exact Prod.ext q1 (nms_inj n n')
theorem TabsD.inj : ∀ {ds : List PyData} {ts ts' : List (Str × List Str)}, TabsD ds ts → TabsD ds ts' → ts = ts'
  | _, _, _, .nil, .nil => rfl
  | _, _, _, .cons a b, .cons a' b' => by rw [a.inj a', b.inj b']
/-- the things of a row -/
def RowD (d : PyData) (ds : List PyData) : Prop := d = .list ds ∨ d = .tuple ds
def ShpD (d : PyData) (tbs : List (Str × List Str)) : Prop := ∃ ds, RowD d ds ∧ 1 ≤ ds.length ∧ ds.length ≤ 5 ∧ TabsD ds tbs ∧ (tbs.map (·.1)).Nodup
/-- the first thing that is wrong -/
def ShpBad (d : PyData) (i : Int) : Prop := (i = -1 ∧ ¬ ∃ ds, RowD d ds ∧ 1 ≤ ds.length ∧ ds.length ≤ 5) ∨
  ∃ ds k e tbs, RowD d ds ∧ 1 ≤ ds.length ∧ ds.length ≤ 5 ∧ i = ((k : Nat) : Int) ∧ ds[k]? = some e ∧ TabsD (ds.take k) tbs ∧ (tbs.map (·.1)).Nodup ∧ ¬ ∃ t, TabD e t ∧ t.1 ∉ tbs.map (·.1)
def ShapeAt (C : Addr) (H : Hp) (p : Addr) (tbs : List (Str × List Str)) : Prop := ∃ dx v, H p = some (.ins C dx [("tables", v)]) ∧ Im H 3 v (dTabs tbs)
theorem ShapeAt.kp {C : Addr} {H H' : Hp} {p : Addr} {tbs : List (Str × List Str)} {ms : List Addr} (h : ShapeAt C H p tbs) (k : Kp ms H H') (hp : p ∉ ms) : ShapeAt C H' p tbs := by
  obtain ⟨dx, v, h1, h2⟩ := h
  exact ⟨dx, v, k.at_ _ _ h1 hp, Im.kp k h2⟩
def spShapeI (C CE : Addr) : Sp := fun vs H Q E => ∃ (p dx : Addr) (S : Addr → Prop) (q : Bool) (n : Nat) (x : V) (d : PyData), vs = [.ref p, x] ∧ H p = some (.ins C dx []) ∧ Dt S q H n x d ∧
  (∀ tbs H', ShpD d tbs → Kp [p] H H' → ShapeAt C H' p tbs → Q .non H') ∧
  (∀ (i : Int) (dd : Addr) (H' : Hp), ShpBad d i → Kp [] H H' → H dd = none → H' dd = some (.xd [("at", .int i)]) → E (.ref CE) (some dd) H')
/-- what the top has of the class Shape -/
structure ShCls (K : PySem.W.Frag) (mg : Str → Option Value) (C : Addr) : Prop where
  cl : Cls K C
  nT : NoAttr K C "tables"
  mgC : mg "Shape" = some (.ref C)
theorem dtAll_strs {S : Addr → Prop} {q : Bool} {H : Hp} {n : Nat} : ∀ {ws : List Str}, (∀ w ∈ ws, w.length ≤ 1000000) → DtAll S q H n (ws.map V.str) (ws.map PyData.str)
  | [], _ => .nil
  | w :: ws, h => .cons (.str w (h w List.mem_cons_self)) (dtAll_strs fun x hx => h x (List.mem_cons_of_mem _ hx))
theorem Same.dt {S : Addr → Prop} {q : Bool} {H H' : Hp} {n : Nat} {v : V} {d : PyData} (h : Dt S q H n v d) (k : Same H H') (kt : ∀ a xs, H a = some (.tup xs) → H' a = some (.tup xs)) : Dt S q H' n v d := h.keep ⟨fun a o e _ => k a o e, kt⟩
section
variable {P : Program} {w : World} {K : PySem.W.Frag} {mg : Str → Option Value} {base : Heap}
theorem ok_shape_init {f C CE : Addr} {fd : FuncData} (B : Bi mg) (F : Fun K "__init__" "Shape.__init__" s_Shape_init f fd) (T : ShCls K mg C) (ER : ∀ base, Err P w K mg base "BadShape" "at" CE)
    (G_is_row : ∀ base, Has P w K mg base CX0 "is_row" ["thing"] 1 spIsRow) (G_is_table : ∀ base, Has P w K mg base CX0 "is_table" ["thing"] 3 spIsTable) :
    FnOk P w K mg base (L2.CX P w) 4 f fd ["self", "tables"] (spShapeI C CE) := by
  refine F.okX sc_Shape_init (fun vs H Q E h => ?_) (fun cdv A outer s H vs Q E hr h => ?_)
  · obtain ⟨p, dx, S, q, n, x, d, rfl, _⟩ := h; rfl
  · obtain ⟨p, dx, S, q, n, x, d, rfl, hp, hx, kQ, kE⟩ := h
    have hr1 : Room 1 _ := hr.mono (by decide)
    have hr3 : Room 3 _ := hr
    have G_is_row := G_is_row base
    have G_is_table := G_is_table base
    have ER := ER base
    refine ⟨_, (C8.pss_cut (ps_if (PW.pt (pw_or (pt_not (pt_val (pe_has G_is_row hr1 (pa_cons (pv 1) pa_nil)))) (pw_or1 (pt_not (pt_chain op_le op_le pe_int (pe_callB call_len (by rfl) B.len PySem.boot_len (pa_cons (pv 1) pa_nil)) pe_int)))))
  (pss_one (ps_raiseE rfl ER hr (by decide) (takes_of rfl rfl rfl rfl) (pa_cons (pe_un un_neg pe_int) pa_nil)))
  pss_nil)
  (pss_cons (ps_set (i := 2) sc_Shape_init.nd rfl (by first | exact Or.inl rfl | exact Or.inr rfl) (pe_lst pa_nil))
  (pss_cons (ps_set (i := 3) sc_Shape_init.nd rfl (by first | exact Or.inl rfl | exact Or.inr rfl) (pe_lst pa_nil))
  (pss_cons (ps_for (passes_of rfl) rfl (pi_or (pi_enum (by rfl) B.enumerate (pa_cons (pv 1) pa_nil)) (pi_enumT (by rfl) B.enumerate (pa_cons (pv 1) pa_nil))) (pg_tup rfl (pgs_cons (pg_name (i := 4) sc_Shape_init.nd rfl (by first | exact Or.inl rfl | exact Or.inr rfl)) (pgs_cons (pg_name (i := 5) sc_Shape_init.nd rfl (by first | exact Or.inl rfl | exact Or.inr rfl)) pgs_nil)))
  (pss_cons (ps_if (PW.pt (pw_or (pt_not (pt_val (pe_has G_is_table hr3 (pa_cons (pv 5) pa_nil)))) (pw_or1 (pt_cmpR op_in_seq (pe_ix ix_tup (pv 5) pe_int (fun _ _ => rfl)) (pv 2) (by rfl)))))
  (pss_one (ps_raiseE rfl ER hr (by decide) (takes_of rfl rfl rfl rfl) (pa_cons (pv 4) pa_nil)))
  pss_nil)
  (pss_cons (ps_expr (pe_bm PySem.F.plainAttrs_list PySem.F.slot_list_append PySem.F.type_list_append mt_append (pv 2) (pa_cons (pe_ix ix_tup (pv 5) pe_int (fun _ _ => rfl)) pa_nil)))
  (pss_one (ps_expr (pe_bm PySem.F.plainAttrs_list PySem.F.slot_list_append PySem.F.type_list_append mt_append (pv 3) (pa_cons (pe_tup (pa_cons (pe_ix ix_tup (pv 5) pe_int (fun _ _ => rfl)) (pa_cons (pe_callTy call_tuple_of (by rfl) B.tuple (by decide +kernel) (pa_cons (pe_ix ix_tup (pv 5) pe_int (fun _ _ => rfl)) pa_nil)) pa_nil))) pa_nil)))))))
  (pss_one (ps_fld (pv 0) (pe_callTy call_tuple_of (by rfl) B.tuple (by decide +kernel) (pa_cons (pv 3) pa_nil)) rfl)))))), ?_⟩
    refine ⟨fun σ H' => σ = [some (.ref p), some x, none, none, none, none] ∧ Kp [] H H' ∧ ∃ ds, RowD d ds ∧ 1 ≤ ds.length ∧ ds.length ≤ 5, ?_, ?_⟩
    · refine ⟨_, rfl, S, q, n, x, d, rfl, hx, fun H1 k1 => ⟨_, rfl, ?_⟩⟩
      have hx1 := hx.keep k1
      have bad : (¬ ∃ ds, RowD d ds ∧ 1 ≤ ds.length ∧ ds.length ≤ 5) → ∀ (dd : Addr), H1 dd = none → E (.ref CE) (some dd) (upd H1 dd (.xd [("at", .int (-1))])) := fun hb dd hdd =>
        kE (-1) dd _ (.inl ⟨rfl, hb⟩) (k1.snoc hdd) (k1.same.free hdd) upd_same
      by_cases hd : isRowD d = true
      · rw [hd]
        refine iteF ?_
        obtain ⟨xs, ds, hl, hrow, hlen⟩ : ∃ (xs : List V) (ds : List PyData), LenV K x H1 xs.length ∧ RowD d ds ∧ xs.length = ds.length := by
          cases hx1 with
          | lst rx lx ax => exact ⟨_, _, .inl ⟨_, .inl rx, rfl⟩, .inl rfl, ax.len⟩
          | tup rx lx ax => exact ⟨_, _, .inr ⟨_, .inl (.inl rx), rfl⟩, .inr rfl, ax.len⟩
          | _ => cases hd
        refine ⟨_, rfl, _, _, rfl, hl, _, _, rfl, rfl, _, rfl, ?_⟩
        have uniq : ∀ es, RowD d es → es = ds := fun es h => by
          rcases h with h | h <;> rcases hrow with h' | h' <;> rw [h] at h'
          · exact PyData.list.inj h'
          · cases h'
          · cases h'
          · exact PyData.tuple.inj h'
        by_cases h1 : 1 ≤ xs.length
        · rw [decide_eq_true (show (1 : Int) ≤ (xs.length : Int) by omega)]
          refine iteT ?_
          refine ⟨_, _, rfl, rfl, _, rfl, ?_⟩
          by_cases h5 : xs.length ≤ 5
          · rw [decide_eq_true (show (xs.length : Int) ≤ 5 by omega)]
            refine iteF ?_
            exact ⟨rfl, k1, ds, hrow, by omega, by omega⟩
          · rw [decide_eq_false (show ¬ (xs.length : Int) ≤ 5 by omega)]
            refine iteT ?_
            refine ⟨_, rfl, by simp, fun b hb => err_in hb fun dd hdd => bad ?_ dd hdd⟩
            rintro ⟨es, h, h', h''⟩
            rw [uniq es h] at h''
            omega
        · rw [decide_eq_false (show ¬ (1 : Int) ≤ (xs.length : Int) by omega)]
          refine iteF ?_
          refine ⟨_, rfl, ?_⟩
          refine iteT ?_
          refine ⟨_, rfl, by simp, fun b hb => err_in hb fun dd hdd => bad ?_ dd hdd⟩
          rintro ⟨es, h, h', h''⟩
          rw [uniq es h] at h'
          omega
      · rw [Bool.eq_false_iff.mpr hd]
        refine iteT (iteT ?_)
        refine ⟨_, rfl, by simp, fun b hb => err_in hb fun dd hdd => bad ?_ dd hdd⟩
        rintro ⟨es, h, h'⟩
        rcases h with h | h
        all_goals (rw [h] at hd; exact hd rfl)
    · rintro σ' H1 ⟨rfl, k1, ds, hrow, l1, l5⟩
      have hx1 := (hx.keep k1).inH
      refine ⟨by show 0 ≤ sizeLine; decide, fun pn hn => ⟨by show 0 ≤ sizeLine; decide, fun pm hm0 => ?_⟩⟩
      have npm : pn ≠ pm := fun z => by rw [← z, upd_same] at hm0; cases hm0
      have hm1 : H1 pm = none := by rw [upd_ne (Ne.symm npm)] at hm0; exact hm0
      have kk : Kp [] H1 (upd (upd H1 pn (.lst [])) pm (.lst [])) := (Kp.new hn).snoc hm0
      rcases hrow with rfl | rfl
      · cases hx1 with
        | @lst m a xs _ rx lx ax =>
          have el : xs.length = ds.length := ax.len
          have hrow : RowD (.list ds) ds := .inl rfl
          refine .inl ⟨_, rfl, a, xs, rfl, .inl (kk.rd (fun z => nomatch z) rx), ?_⟩
          refine for_it (walk_enum (xs := xs)) (fun i σ H' => (∃ v w : Option V, σ = [some (.ref p), some (.ref a), some (.ref pn), some (.ref pm), v, w]) ∧ Kp [] H1 H' ∧ ∃ (tbs : List (Str × List Str)) (ms : List V), TabsD (ds.take i) tbs ∧ (tbs.map (·.1)).Nodup ∧ H' pn = some (.lst ((tbs.map (·.1)).map V.str)) ∧ H' pm = some (.lst ms) ∧ ms.length = i ∧ ImAll H' 2 ms (tbs.map dTab))
            ⟨⟨none, none, rfl⟩, kk, [], [], .nil, List.nodup_nil, by rw [upd_ne npm, upd_same]; rfl, upd_same, rfl, .nil⟩ (fun i σ H' _ ⟨_, k2, _⟩ => .inl (k2.rd (fun z => nomatch z) rx)) ?_ ?_
          · rintro i v σ H2 H3 hi' ⟨⟨v0, w0, rfl⟩, k2, tbs, ms, t1, t2, h2, h3, t3, t4⟩ ⟨T, a1, y, rfl, hT, rfl, ea, ey⟩
            cases ea
            obtain ⟨dy, hdy, dt⟩ := ax.getV ey
            have k3 : Kp [] H1 (upd H2 T (.tup [.int (i : Nat), y])) := k2.snoc hT
            have Tpn : pn ≠ T := ne_of_none h2 hT
            have Tpm : pm ≠ T := ne_of_none h3 hT
            refine ⟨T, _, rfl, SqT.of upd_same, rfl, _, _, rfl, _, _, rfl, rfl, ?_⟩
            refine ⟨_, rfl, _, q, m, y, dy, rfl, dt.keep k3, fun H4 k4 => ⟨_, rfl, ?_⟩⟩
            have k5 : Kp [] H1 H4 := k3.trans k4
            have h2' : H4 pn = some (.lst ((tbs.map (·.1)).map V.str)) := k4.at_ _ _ (by rw [upd_ne Tpn]; exact h2) (fun z => nomatch z)
            have h3' : H4 pm = some (.lst ms) := k4.at_ _ _ (by rw [upd_ne Tpm]; exact h3) (fun z => nomatch z)
            have t4' : ImAll H4 2 ms (tbs.map dTab) := ImAll.kp ((Kp.new (ms := []) hT).trans k4) t4
            have bad : (¬ ∃ t, TabD dy t ∧ t.1 ∉ tbs.map (·.1)) → ∀ (dd : Addr), H4 dd = none → E (.ref CE) (some dd) (upd H4 dd (.xd [("at", .int ((i : Nat) : Int))])) := fun hb dd hdd => by
              have kH : Kp [] H H4 := k1.trans k5
              refine kE i dd _ (.inr ⟨ds, i, dy, tbs, hrow, l1, l5, rfl, hdy, t1, t2, hb⟩) (kH.snoc hdd) (kH.same.free hdd) upd_same
            by_cases ht : ∃ t, TabD dy t
            · rw [bP_t ht]
              refine iteF ?_
              obtain ⟨t, e, rfl, nt, ne⟩ := ht
              have dt' := dt.keep k5
              cases dt' with
              | @tup m' a' ys _ ry ly ay =>
                cases ay with
                | @cons _ y0 _ _ _ a0 ay =>
                  cases ay with
                  | @cons _ y1 _ _ _ a1 ay =>
                    cases ay
                    cases a0 with
                    | str _ hz =>
                      refine ⟨_, rfl, a', _, _, .str t.1, rfl, rfl, .inl (.inl ry), rfl, _, rfl, pn, _, rfl, .inl (SqL.of h2'), rfl, flat_strs _, _, rfl, ?_⟩
                      rw [inV_strs]
                      by_cases hm : t.1 ∈ tbs.map (·.1)
                      · rw [decide_eq_true hm]
                        refine iteT ?_
                        refine ⟨_, rfl, by simp, fun b hb => err_in hb fun dd hdd => bad ?_ dd hdd⟩
                        rintro ⟨t', h', hn'⟩
                        have := TabD.inj h' (show TabD (.tuple [.str t.1, e]) t from ⟨e, rfl, nt, ne⟩)
                        rw [this] at hn'
                        exact hn' hm
                      · rw [decide_eq_false hm]
                        refine iteF ?_
                        -- names.append(table[0])
                        have lt5 : i < 5 := by omega
                        have ltb : tbs.length = i := by
                          have := t1.len
                          rw [List.length_take] at this
                          omega
                        refine ⟨_, rfl, .inl ⟨rfl, _, SqL.of h2'⟩, _, rfl, a', _, _, .str t.1, rfl, rfl, .inl (.inl ry), rfl, pn, _, _, rfl, rfl, h2', by rw [List.length_map, List.length_map, ltb]; exact small1000 (by omega), ?_⟩
                        have npn : H1 pn = none := hn
                        have k6 : Kp [] H1 (upd H4 pn (.lst ((tbs.map (·.1)).map V.str ++ [.str t.1]))) := k5.late npn
                        have ry6 : ((upd H4 pn (.lst ((tbs.map (·.1)).map V.str ++ [.str t.1])))) a' = some (.tup [.str t.1, y1]) := (Kp.updL (ms := [pn]) h2' (by simp)).tp _ _ ry
                        have h36 : upd H4 pn (.lst ((tbs.map (·.1)).map V.str ++ [.str t.1])) pm = some (.lst ms) := by rw [upd_ne (Ne.symm npm)]; exact h3'
                        -- made.append((table[0], tuple(table[1])))
                        refine ⟨_, rfl, .inl ⟨rfl, _, SqL.of h36⟩, _, rfl, a', _, _, .str t.1, rfl, rfl, .inl (.inl ry6), rfl, _, rfl, a', _, _, y1, rfl, rfl, .inl (.inl ry6), rfl, ?_⟩
                        have fin : ∀ (H7 : Hp) (u : Addr), Kp [] (upd H4 pn (.lst ((tbs.map (·.1)).map V.str ++ [.str t.1]))) H7 → H7 u = some (.tup (t.2.map V.str)) → ∀ P', H7 P' = none →
                            (∃ v w : Option V, ([some (.ref p), some (.ref a), some (.ref pn), some (.ref pm), some (.int (i : Nat)), some (.ref a')] : L2.St) = [some (.ref p), some (.ref a), some (.ref pn), some (.ref pm), v, w]) ∧
                            Kp [] H1 (upd (upd H7 P' (.tup [.str t.1, .ref u])) pm (.lst (ms ++ [.ref P']))) ∧ ∃ (tbs : List (Str × List Str)) (ms' : List V), TabsD (ds.take (i + 1)) tbs ∧ (tbs.map (·.1)).Nodup ∧
                              upd (upd H7 P' (.tup [.str t.1, .ref u])) pm (.lst (ms ++ [.ref P'])) pn = some (.lst ((tbs.map (·.1)).map V.str)) ∧ upd (upd H7 P' (.tup [.str t.1, .ref u])) pm (.lst (ms ++ [.ref P'])) pm = some (.lst ms') ∧ ms'.length = i + 1 ∧ ImAll (upd (upd H7 P' (.tup [.str t.1, .ref u])) pm (.lst (ms ++ [.ref P']))) 2 ms' (tbs.map dTab) := by
                          intro H7 u k7 hu P' hP
                          have h37 : H7 pm = some (.lst ms) := k7.at_ _ _ h36 (fun z => nomatch z)
                          have k8 : Kp [pm] H7 (upd (upd H7 P' (.tup [.str t.1, .ref u])) pm (.lst (ms ++ [.ref P']))) := (Kp.new hP).trans (Kp.updL (by rw [upd_ne (ne_of_none h37 hP)]; exact h37) (by simp))
                          have hn7 : H7 pn = some (.lst ((tbs.map (·.1)).map V.str ++ [.str t.1])) := k7.at_ _ _ upd_same (fun z => nomatch z)
                          have uP : u ≠ P' := ne_of_none hu hP
                          have pP : P' ≠ pm := Ne.symm (ne_of_none h37 hP)
                          have hl2 := ne.2.2.2.2
                          have upm : u ≠ pm := fun z => by rw [z, h37] at hu; cases hu
                          refine ⟨⟨_, _, rfl⟩, ((k6.trans k7).snoc hP).late hm1, tbs ++ [t], ms ++ [.ref P'], ?_, ?_, ?_, upd_same, by simp [t3], ?_⟩
                          · rw [take_snoc hdy]; exact t1.snoc ⟨e, rfl, nt, ne⟩
                          · rw [List.map_append]; exact nd_snoc t2 hm
                          · rw [upd_ne npm, upd_ne (ne_of_none hn7 hP), hn7]; simp
                          · rw [List.map_append]
                            have km : Kp [pn, pm] H4 (upd (upd H7 P' (.tup [.str t.1, .ref u])) pm (.lst (ms ++ [.ref P']))) := ((Kp.updL h2' (by simp)).trans k7.zero).trans (k8.mono (by simp))
                            refine DtAll.append (ImAll.kp km t4') (.cons ?_ .nil)
                            refine .tup (by rw [upd_ne pP, upd_same]) ⟨by simp, _, by rw [upd_ne pP, upd_same]⟩ (.cons (.str _ hz) (.cons (.tup (by rw [upd_ne upm, upd_ne uP]; exact hu) ⟨by rw [List.length_map]; omega, _, by rw [upd_ne upm, upd_ne uP]; exact hu⟩ ?_) .nil))
                            exact dtAll_strs fun w' hw' => Nat.le_trans (ne.2.1 w' hw').2.1 (by decide)
                        rcases ne.1 with e1 | e1 <;> subst e1
                        · cases a1 with
                          | @lst _ b zs _ rb lb ab =>
                            have ez := DtAll.strs ab
                            subst ez
                            have rb6 : Rd (upd H4 pn (.lst ((tbs.map (·.1)).map V.str ++ [.str t.1]))) b (.lst (t.2.map V.str)) := (Kp.updL (ms := [pn]) h2' (by simp)).rd (by
                              intro z
                              have e' : b = pn := by simpa using z
                              exact lb.2.2 (by rw [e']; exact hn)) rb
                            refine ⟨b, _, rfl, .inl ⟨.inl rb6, fun u hu => ⟨by show 2 ≤ sizeLine; decide, fun P' hP => ?_⟩⟩⟩
                            have h38 : upd (upd (upd H4 pn (.lst ((tbs.map (·.1)).map V.str ++ [.str t.1]))) u (.tup (t.2.map V.str))) P' (.tup [.str t.1, .ref u]) pm = some (.lst ms) := by
                              have x1 : pm ≠ u := ne_of_none h36 hu
                              have x2 : pm ≠ P' := ne_of_none (by rw [upd_ne x1]; exact h36) hP
                              rw [upd_ne x2, upd_ne x1]; exact h36
                            refine ⟨pm, _, _, rfl, rfl, h38, by rw [t3]; exact small1000 (by omega), ?_⟩
                            exact fin _ u (Kp.new hu) upd_same P' hP
                        · cases a1 with
                          | @tup _ b zs _ rb lb ab =>
                            have ez := DtAll.strs ab
                            subst ez
                            have rb6 : ((upd H4 pn (.lst ((tbs.map (·.1)).map V.str ++ [.str t.1])))) b = some (.tup (t.2.map V.str)) := (Kp.updL (ms := [pn]) h2' (by simp)).tp _ _ rb
                            refine ⟨b, _, rfl, .inr ⟨.inl (.inl rb6), by show 2 ≤ sizeLine; decide, fun P' hP => ?_⟩⟩
                            have h38 : upd (upd H4 pn (.lst ((tbs.map (·.1)).map V.str ++ [.str t.1]))) P' (.tup [.str t.1, .ref b]) pm = some (.lst ms) := by
                              rw [upd_ne (ne_of_none h36 hP)]; exact h36
                            refine ⟨pm, _, _, rfl, rfl, h38, by rw [t3]; exact small1000 (by omega), ?_⟩
                            exact fin _ b (Kp.refl _) rb6 P' hP
            · rw [bP_f ht]
              refine iteT (iteT ?_)
              refine ⟨_, rfl, by simp, fun b hb => err_in hb fun dd hdd => bad ?_ dd hdd⟩
              rintro ⟨t, h', _⟩
              exact ht ⟨t, h'⟩
          · rintro σ H2 ⟨⟨v0, w0, rfl⟩, k2, tbs, ms, t1, t2, h2, h3, t3, t4⟩
            rw [el, List.take_length] at t1
            have kH : Kp [] H H2 := k1.trans k2
            have hp2 : H2 p = some (.ins C dx []) := kH.at_ _ _ hp (fun z => nomatch z)
            refine ⟨_, rfl, pm, _, rfl, .inl ⟨SqL.of h3, fun tt htt => ?_⟩⟩
            have pt : p ≠ tt := ne_of_none hp2 htt
            refine ⟨_, rfl, p, C, dx, [], rfl, by rw [upd_ne pt]; exact hp2, T.cl, T.nT, by show 0 < 1000; decide, ?_⟩
            refine kQ tbs _ ⟨ds, hrow, l1, l5, t1, t2⟩ (((kH.snoc htt).zero).trans (Kp.set (by rw [upd_ne pt]; exact hp2) (fun _ z => by cases z) (by simp))) ⟨dx, .ref tt, upd_same, ?_⟩
            have kf : Kp [p] H2 (upd (upd H2 tt (.tup ms)) p (.ins C dx (putF "tables" (.ref tt) []))) := (Kp.new htt).trans (Kp.set (by rw [upd_ne pt]; exact hp2) (fun _ z => by cases z) (by simp))
            refine .tup (by rw [upd_ne (Ne.symm pt), upd_same]) ⟨by rw [t3]; omega, _, by rw [upd_ne (Ne.symm pt), upd_same]⟩ (ImAll.kp kf t4)
      · cases hx1 with
        | @tup m a xs _ rx lx ax =>
          have el : xs.length = ds.length := ax.len
          have hrow : RowD (.tuple ds) ds := .inr rfl
          refine .inr ⟨_, rfl, a, xs, rfl, .inl (.inl (kk.tp _ _ rx)), ?_⟩
          refine for_it (walk_enumT (xs := xs)) (fun i σ H' => (∃ v w : Option V, σ = [some (.ref p), some (.ref a), some (.ref pn), some (.ref pm), v, w]) ∧ Kp [] H1 H' ∧ ∃ (tbs : List (Str × List Str)) (ms : List V), TabsD (ds.take i) tbs ∧ (tbs.map (·.1)).Nodup ∧ H' pn = some (.lst ((tbs.map (·.1)).map V.str)) ∧ H' pm = some (.lst ms) ∧ ms.length = i ∧ ImAll H' 2 ms (tbs.map dTab))
            ⟨⟨none, none, rfl⟩, kk, [], [], .nil, List.nodup_nil, by rw [upd_ne npm, upd_same]; rfl, upd_same, rfl, .nil⟩ (fun i σ H' _ ⟨_, k2, _⟩ => .inl (.inl (k2.tp _ _ rx))) ?_ ?_
          · rintro i v σ H2 H3 hi' ⟨⟨v0, w0, rfl⟩, k2, tbs, ms, t1, t2, h2, h3, t3, t4⟩ ⟨T, a1, y, rfl, hT, rfl, ea, ey⟩
            cases ea
            obtain ⟨dy, hdy, dt⟩ := ax.getV ey
            have k3 : Kp [] H1 (upd H2 T (.tup [.int (i : Nat), y])) := k2.snoc hT
            have Tpn : pn ≠ T := ne_of_none h2 hT
            have Tpm : pm ≠ T := ne_of_none h3 hT
            refine ⟨T, _, rfl, SqT.of upd_same, rfl, _, _, rfl, _, _, rfl, rfl, ?_⟩
            refine ⟨_, rfl, _, q, m, y, dy, rfl, dt.keep k3, fun H4 k4 => ⟨_, rfl, ?_⟩⟩
            have k5 : Kp [] H1 H4 := k3.trans k4
            have h2' : H4 pn = some (.lst ((tbs.map (·.1)).map V.str)) := k4.at_ _ _ (by rw [upd_ne Tpn]; exact h2) (fun z => nomatch z)
            have h3' : H4 pm = some (.lst ms) := k4.at_ _ _ (by rw [upd_ne Tpm]; exact h3) (fun z => nomatch z)
            have t4' : ImAll H4 2 ms (tbs.map dTab) := ImAll.kp ((Kp.new (ms := []) hT).trans k4) t4
            have bad : (¬ ∃ t, TabD dy t ∧ t.1 ∉ tbs.map (·.1)) → ∀ (dd : Addr), H4 dd = none → E (.ref CE) (some dd) (upd H4 dd (.xd [("at", .int ((i : Nat) : Int))])) := fun hb dd hdd => by
              have kH : Kp [] H H4 := k1.trans k5
              refine kE i dd _ (.inr ⟨ds, i, dy, tbs, hrow, l1, l5, rfl, hdy, t1, t2, hb⟩) (kH.snoc hdd) (kH.same.free hdd) upd_same
            by_cases ht : ∃ t, TabD dy t
            · rw [bP_t ht]
              refine iteF ?_
              obtain ⟨t, e, rfl, nt, ne⟩ := ht
              have dt' := dt.keep k5
              cases dt' with
              | @tup m' a' ys _ ry ly ay =>
                cases ay with
                | @cons _ y0 _ _ _ a0 ay =>
                  cases ay with
                  | @cons _ y1 _ _ _ a1 ay =>
                    cases ay
                    cases a0 with
                    | str _ hz =>
                      refine ⟨_, rfl, a', _, _, .str t.1, rfl, rfl, .inl (.inl ry), rfl, _, rfl, pn, _, rfl, .inl (SqL.of h2'), rfl, flat_strs _, _, rfl, ?_⟩
                      rw [inV_strs]
                      by_cases hm : t.1 ∈ tbs.map (·.1)
                      · rw [decide_eq_true hm]
                        refine iteT ?_
                        refine ⟨_, rfl, by simp, fun b hb => err_in hb fun dd hdd => bad ?_ dd hdd⟩
                        rintro ⟨t', h', hn'⟩
                        have := TabD.inj h' (show TabD (.tuple [.str t.1, e]) t from ⟨e, rfl, nt, ne⟩)
                        rw [this] at hn'
                        exact hn' hm
                      · rw [decide_eq_false hm]
                        refine iteF ?_
                        -- names.append(table[0])
                        have lt5 : i < 5 := by omega
                        have ltb : tbs.length = i := by
                          have := t1.len
                          rw [List.length_take] at this
                          omega
                        refine ⟨_, rfl, .inl ⟨rfl, _, SqL.of h2'⟩, _, rfl, a', _, _, .str t.1, rfl, rfl, .inl (.inl ry), rfl, pn, _, _, rfl, rfl, h2', by rw [List.length_map, List.length_map, ltb]; exact small1000 (by omega), ?_⟩
                        have npn : H1 pn = none := hn
                        have k6 : Kp [] H1 (upd H4 pn (.lst ((tbs.map (·.1)).map V.str ++ [.str t.1]))) := k5.late npn
                        have ry6 : ((upd H4 pn (.lst ((tbs.map (·.1)).map V.str ++ [.str t.1])))) a' = some (.tup [.str t.1, y1]) := (Kp.updL (ms := [pn]) h2' (by simp)).tp _ _ ry
                        have h36 : upd H4 pn (.lst ((tbs.map (·.1)).map V.str ++ [.str t.1])) pm = some (.lst ms) := by rw [upd_ne (Ne.symm npm)]; exact h3'
                        -- made.append((table[0], tuple(table[1])))
                        refine ⟨_, rfl, .inl ⟨rfl, _, SqL.of h36⟩, _, rfl, a', _, _, .str t.1, rfl, rfl, .inl (.inl ry6), rfl, _, rfl, a', _, _, y1, rfl, rfl, .inl (.inl ry6), rfl, ?_⟩
                        have fin : ∀ (H7 : Hp) (u : Addr), Kp [] (upd H4 pn (.lst ((tbs.map (·.1)).map V.str ++ [.str t.1]))) H7 → H7 u = some (.tup (t.2.map V.str)) → ∀ P', H7 P' = none →
                            (∃ v w : Option V, ([some (.ref p), some (.ref a), some (.ref pn), some (.ref pm), some (.int (i : Nat)), some (.ref a')] : L2.St) = [some (.ref p), some (.ref a), some (.ref pn), some (.ref pm), v, w]) ∧
                            Kp [] H1 (upd (upd H7 P' (.tup [.str t.1, .ref u])) pm (.lst (ms ++ [.ref P']))) ∧ ∃ (tbs : List (Str × List Str)) (ms' : List V), TabsD (ds.take (i + 1)) tbs ∧ (tbs.map (·.1)).Nodup ∧
                              upd (upd H7 P' (.tup [.str t.1, .ref u])) pm (.lst (ms ++ [.ref P'])) pn = some (.lst ((tbs.map (·.1)).map V.str)) ∧ upd (upd H7 P' (.tup [.str t.1, .ref u])) pm (.lst (ms ++ [.ref P'])) pm = some (.lst ms') ∧ ms'.length = i + 1 ∧ ImAll (upd (upd H7 P' (.tup [.str t.1, .ref u])) pm (.lst (ms ++ [.ref P']))) 2 ms' (tbs.map dTab) := by
                          intro H7 u k7 hu P' hP
                          have h37 : H7 pm = some (.lst ms) := k7.at_ _ _ h36 (fun z => nomatch z)
                          have k8 : Kp [pm] H7 (upd (upd H7 P' (.tup [.str t.1, .ref u])) pm (.lst (ms ++ [.ref P']))) := (Kp.new hP).trans (Kp.updL (by rw [upd_ne (ne_of_none h37 hP)]; exact h37) (by simp))
                          have hn7 : H7 pn = some (.lst ((tbs.map (·.1)).map V.str ++ [.str t.1])) := k7.at_ _ _ upd_same (fun z => nomatch z)
                          have uP : u ≠ P' := ne_of_none hu hP
                          have pP : P' ≠ pm := Ne.symm (ne_of_none h37 hP)
                          have hl2 := ne.2.2.2.2
                          have upm : u ≠ pm := fun z => by rw [z, h37] at hu; cases hu
                          refine ⟨⟨_, _, rfl⟩, ((k6.trans k7).snoc hP).late hm1, tbs ++ [t], ms ++ [.ref P'], ?_, ?_, ?_, upd_same, by simp [t3], ?_⟩
                          · rw [take_snoc hdy]; exact t1.snoc ⟨e, rfl, nt, ne⟩
                          · rw [List.map_append]; exact nd_snoc t2 hm
                          · rw [upd_ne npm, upd_ne (ne_of_none hn7 hP), hn7]; simp
                          · rw [List.map_append]
                            have km : Kp [pn, pm] H4 (upd (upd H7 P' (.tup [.str t.1, .ref u])) pm (.lst (ms ++ [.ref P']))) := ((Kp.updL h2' (by simp)).trans k7.zero).trans (k8.mono (by simp))
                            refine DtAll.append (ImAll.kp km t4') (.cons ?_ .nil)
                            refine .tup (by rw [upd_ne pP, upd_same]) ⟨by simp, _, by rw [upd_ne pP, upd_same]⟩ (.cons (.str _ hz) (.cons (.tup (by rw [upd_ne upm, upd_ne uP]; exact hu) ⟨by rw [List.length_map]; omega, _, by rw [upd_ne upm, upd_ne uP]; exact hu⟩ ?_) .nil))
                            exact dtAll_strs fun w' hw' => Nat.le_trans (ne.2.1 w' hw').2.1 (by decide)
                        rcases ne.1 with e1 | e1 <;> subst e1
                        · cases a1 with
                          | @lst _ b zs _ rb lb ab =>
                            have ez := DtAll.strs ab
                            subst ez
                            have rb6 : Rd (upd H4 pn (.lst ((tbs.map (·.1)).map V.str ++ [.str t.1]))) b (.lst (t.2.map V.str)) := (Kp.updL (ms := [pn]) h2' (by simp)).rd (by
                              intro z
                              have e' : b = pn := by simpa using z
                              exact lb.2.2 (by rw [e']; exact hn)) rb
                            refine ⟨b, _, rfl, .inl ⟨.inl rb6, fun u hu => ⟨by show 2 ≤ sizeLine; decide, fun P' hP => ?_⟩⟩⟩
                            have h38 : upd (upd (upd H4 pn (.lst ((tbs.map (·.1)).map V.str ++ [.str t.1]))) u (.tup (t.2.map V.str))) P' (.tup [.str t.1, .ref u]) pm = some (.lst ms) := by
                              have x1 : pm ≠ u := ne_of_none h36 hu
                              have x2 : pm ≠ P' := ne_of_none (by rw [upd_ne x1]; exact h36) hP
                              rw [upd_ne x2, upd_ne x1]; exact h36
                            refine ⟨pm, _, _, rfl, rfl, h38, by rw [t3]; exact small1000 (by omega), ?_⟩
                            exact fin _ u (Kp.new hu) upd_same P' hP
                        · cases a1 with
                          | @tup _ b zs _ rb lb ab =>
                            have ez := DtAll.strs ab
                            subst ez
                            have rb6 : ((upd H4 pn (.lst ((tbs.map (·.1)).map V.str ++ [.str t.1])))) b = some (.tup (t.2.map V.str)) := (Kp.updL (ms := [pn]) h2' (by simp)).tp _ _ rb
                            refine ⟨b, _, rfl, .inr ⟨.inl (.inl rb6), by show 2 ≤ sizeLine; decide, fun P' hP => ?_⟩⟩
                            have h38 : upd (upd H4 pn (.lst ((tbs.map (·.1)).map V.str ++ [.str t.1]))) P' (.tup [.str t.1, .ref b]) pm = some (.lst ms) := by
                              rw [upd_ne (ne_of_none h36 hP)]; exact h36
                            refine ⟨pm, _, _, rfl, rfl, h38, by rw [t3]; exact small1000 (by omega), ?_⟩
                            exact fin _ b (Kp.refl _) rb6 P' hP
            · rw [bP_f ht]
              refine iteT (iteT ?_)
              refine ⟨_, rfl, by simp, fun b hb => err_in hb fun dd hdd => bad ?_ dd hdd⟩
              rintro ⟨t, h', _⟩
              exact ht ⟨t, h'⟩
          · rintro σ H2 ⟨⟨v0, w0, rfl⟩, k2, tbs, ms, t1, t2, h2, h3, t3, t4⟩
            rw [el, List.take_length] at t1
            have kH : Kp [] H H2 := k1.trans k2
            have hp2 : H2 p = some (.ins C dx []) := kH.at_ _ _ hp (fun z => nomatch z)
            refine ⟨_, rfl, pm, _, rfl, .inl ⟨SqL.of h3, fun tt htt => ?_⟩⟩
            have pt : p ≠ tt := ne_of_none hp2 htt
            refine ⟨_, rfl, p, C, dx, [], rfl, by rw [upd_ne pt]; exact hp2, T.cl, T.nT, by show 0 < 1000; decide, ?_⟩
            refine kQ tbs _ ⟨ds, hrow, l1, l5, t1, t2⟩ (((kH.snoc htt).zero).trans (Kp.set (by rw [upd_ne pt]; exact hp2) (fun _ z => by cases z) (by simp))) ⟨dx, .ref tt, upd_same, ?_⟩
            have kf : Kp [p] H2 (upd (upd H2 tt (.tup ms)) p (.ins C dx (putF "tables" (.ref tt) []))) := (Kp.new htt).trans (Kp.set (by rw [upd_ne pt]; exact hp2) (fun _ z => by cases z) (by simp))
            refine .tup (by rw [upd_ne (Ne.symm pt), upd_same]) ⟨by rw [t3]; omega, _, by rw [upd_ne (Ne.symm pt), upd_same]⟩ (ImAll.kp kf t4)
end
end Fm

namespace PySem.W
open PySem PySem.Calls PyProof.Rows
section
variable {prog : Program} {w : World} {A : Around} {E : Value → Shared → Prop} {s : Shared} {K : Frag} {x C f L : Addr} {h₀ : Heap} {m : Str → Option Value} {ox : Obj} {od : Option Obj} {b tb : Value}
/-- a special name that the class leaves to a built-in -/
theorem fm_ifBound {M : Model} {nm : Str} {bid : String} {as : List Value} {Q : Option Value → Shared → Prop} (X : K.In s.heap) (I : InstAt s.heap x ox C od) (hs : findIn K (.ref C) nm = some (some (.builtin bid))) (hb : ∀ self, bindSpecial (.builtin bid) self = pure (.builtin bid, [self]))
    (h : wpAny M A (call (.builtin bid) (.ref x :: as)) (fun v => Q (some v)) E s) : wpAny M A (callSpecialIfBound? (.ref x) nm as) Q E s := by
  have last : wpAny M A (call (.builtin bid) ([.ref x] ++ as) >>= fun v => pure (some v)) Q E s := wpAny_bind (wpAny_mono h (fun _ _ q => wpAny_pure q) fun _ _ q => q)
  simp only [callSpecialIfBound?, bindSpecialIfBound?]
  refine wpAny_holding (wpAny_bind (wpAny_bind (wpAny_bind (I.type.here ((looks_findIn X hs).here ?_)))))
  refine wpAny_bind (wpAny_askSetting (wpAny_ite ?_))
  split
  · rw [hb]
    exact wpAny_bind (wpAny_pure (wpAny_pure (by exact last)))
  · rw [hb]
    exact wpAny_tryCatch (wpAny_bind (wpAny_pure (wpAny_pure (by exact last))))
/-- a != b by object.__ne__ over the class's own __eq__ -/
theorem fm_ne {Q : Value → Shared → Prop} (hu : A.units + 1 < cLine) (F : Fr h₀ L s.heap m) (X₀ : K.In h₀) (I : InstAt s.heap x ox C od) (hb : Looks (model prog w) s.heap (typeOf b) tb) (hn : notFirst K C tb = true)
    (hne : findIn K (.ref C) "__ne__" = some (some (.builtin "object.__ne__"))) (heq : findIn K (.ref C) "__eq__" = some (some (.ref f))) (hf : isFn K (.ref f) = true) (hob : subIn K (.ref C) (.type "object") = some true)
    (h : wpAny (model prog w) A.in1 (call (.ref f) [.ref x, b]) (fun v s' => ∃ r, v = .bool r ∧ Q (.bool (!r)) s') E s) : wpAny (model prog w) A (richCompare .NotEq (.ref x) b) Q E s := by
  have X := X₀.keeps F.keep
  have one : wpAny (model prog w) A (tryCompare (.ref x) "__ne__" b) (fun r s' => ∃ v, r = some v ∧ Q v s') E s := by
    unfold tryCompare
    refine wpAny_bind (fm_ifBound X I hne PySem.F.cmp_object.ne.bind ?_)
    have sub : Looks (model prog w) s.heap (isInstance (.ref x) (.type "object")) true := (I.type (M := model prog w)).andThen (looks_subIn X hob)
    refine wpAny_call (codeAny_call_builtin PySem.F.cmp_object.ne.plain PySem.F.cmpEntry_ne (check_slot PySem.F.cmpKind_ne PySem.F.cmpSplit_ne sub (PySem.F.cmpArgs_ne _ _) ?_))
    unfold Builtin.«object.__ne__»
    refine wpAny_bind (wpAny_of_eq (a := ((Value.ref x : Value), [b])) (by first | rfl | (simp only [slotArgs]; rfl)) ?_)
    refine wpAny_bind (wpAny_cRoomFor hu ?_)
    refine wpAny_bind (ifBound_K X I heq hf (wpAny_mono h (fun v s' hv => ?_) fun _ _ e => e))
    obtain ⟨r, rfl, q⟩ := hv
    refine wpAny_bind (wpAny_truthy_bool ?_)
    exact wpAny_pure (wpAny_pure ⟨_, rfl, q⟩)
  unfold richCompare
  simp only [oneThing_ref]
  refine wpAny_holding (wpAny_bind (wpAny_cRoomFor (Nat.lt_of_succ_lt hu) ?_))
  refine wpAny_bind (I.type.here (wpAny_bind (hb.here ?_)))
  split
  · rename_i q
    have e : subIn K tb (.ref C) = some false := by
      rcases Bool.or_eq_true_iff.mp hn with e | e
      · rw [beq_iff_eq.mp e] at q; simp at q
      · exact beq_iff_eq.mp e
    refine wpAny_bind ((looks_subIn X e).here ?_)
    simp only [Bool.false_eq_true, if_false]
    refine wpAny_bind (wpAny_mono one (fun r s' z => ?_) fun _ _ e => e)
    obtain ⟨v, rfl, hq⟩ := z
    exact wpAny_pure hq
  · refine wpAny_bind (wpAny_pure ?_)
    simp only [Bool.false_eq_true, if_false]
    refine wpAny_bind (wpAny_mono one (fun r s' z => ?_) fun _ _ e => e)
    obtain ⟨v, rfl, hq⟩ := z
    exact wpAny_pure hq
end
end PySem.W
namespace Fm
open PySem PySem.Spec PyProof.Rows L2
/-- what the top says of a class with an own ==, the right side being of type t -/
structure EqC (K : PySem.W.Frag) (C f : Addr) : Prop where
  eq : PySem.W.findIn K (.ref C) "__eq__" = some (some (.ref f))
  fn : PySem.W.isFn K (.ref f) = true
  ne : PySem.W.findIn K (.ref C) "__ne__" = some (some (.builtin "object.__ne__"))
  ob : PySem.W.subIn K (.ref C) (.type "object") = some true
section
variable {X : Cx} {CX : CXT} {C f : Addr} {fd : FuncData} {ps : List Str} {sp : Sp} {k : Nat} {E : XK}
def rEqO (K : PySem.W.Frag) (C : Addr) (sp : Sp) (E : XK) : R2 := fun x y H Q => ∃ (a dx : Addr) (fs : List (Str × V)) (t : Value), x = .ref a ∧ H a = some (.ins C dx fs) ∧ TyX K H y t ∧ PySem.W.notFirst K C t = true ∧ sp [x, y] H (fun v H' => ∃ b, v = .bl b ∧ Q (.bl b) H') E
def rNeO (K : PySem.W.Frag) (C : Addr) (sp : Sp) (E : XK) : R2 := fun x y H Q => ∃ (a dx : Addr) (fs : List (Str × V)) (t : Value), x = .ref a ∧ H a = some (.ins C dx fs) ∧ TyX K H y t ∧ PySem.W.notFirst K C t = true ∧ sp [x, y] H (fun v H' => ∃ b, v = .bl b ∧ Q (.bl (!b)) H') E
theorem op_eqO (T : EqC X.K C f) (F : FnOk X.prog X.w X.K X.mg X.base CX k f fd ps sp) (hb : Binds X.K fd ps []) (hx : Passes CX X E) (hr : Room k X.A) : OpR X (compareOp .Eq) (rEqO X.K C sp E) := by
  intro pins s σ H x y u v Q I rx ry h
  obtain ⟨a, dx, fs, t, rfl, ha, ty, nf, q⟩ := h
  cases rx
  obtain ⟨mA, J, _⟩ := ins_get I.hok ha
  obtain ⟨od, J, _⟩ := J.look
  obtain ⟨m, hF⟩ := I.fr
  obtain ⟨P, Z, p, _⟩ := kit_of I ry ty
  show wpAny (model X.prog X.w) X.A (richCompare .Eq (.ref a) v) (EP X pins σ Q) X.xe s
  refine PySem.W.cmp_K (op := .Eq) (tb := t) hr.units0 hF I.ok.mod.kin J (Z.ty _ _ I.kIn p) nf T.eq T.fn ?_
  refine wpAny_mono (run_fn (vs := [.ref a, y]) F hr hb .nil hx I (.cons rfl (.cons ry .nil)) q) (fun w s' hw => ?_) fun _ _ e => e
  obtain ⟨z, H', I', rz, b, rfl, qb⟩ := hw
  cases rz
  exact ⟨.bl b, H', I', rfl, qb⟩
theorem op_neO (T : EqC X.K C f) (F : FnOk X.prog X.w X.K X.mg X.base CX k f fd ps sp) (hb : Binds X.K fd ps []) (hx : Passes CX X E) (hr : Room (k + 1) X.A) : OpR X (compareOp .NotEq) (rNeO X.K C sp E) := by
  intro pins s σ H x y u v Q I rx ry h
  obtain ⟨a, dx, fs, t, rfl, ha, ty, nf, q⟩ := h
  cases rx
  obtain ⟨mA, J, _⟩ := ins_get I.hok ha
  obtain ⟨od, J, _⟩ := J.look
  obtain ⟨m, hF⟩ := I.fr
  obtain ⟨P, Z, p, _⟩ := kit_of I ry ty
  have hu : X.A.units + 1 < cLine := hu_of hr
  show wpAny (model X.prog X.w) X.A (richCompare .NotEq (.ref a) v) (EP X pins σ Q) X.xe s
  refine PySem.W.fm_ne (tb := t) hu hF I.ok.mod.kin J (Z.ty _ _ I.kIn p) nf T.ne T.eq T.fn T.ob ?_
  have e0 : Env0 X.prog X.w X.K X.mg X.base X.A.in1 X.stack s H := by
    have e := I.env0
    exact ⟨e.frames, e.mod, e.bs, e.bsz, e.funs, e.frf, e.hok, e.bare⟩
  have r2 : Vals [V.ref a, y] [Value.ref a, v] := .cons rfl (.cons ry .nil)
  have hl := F.len _ _ _ _ q
  refine wpAny_call (codeAny_mono (F.run X.A.in1 X.stack s H ⟨[.ref a, v], []⟩ [.ref a, v] [.ref a, y] _ E hr.in1 e0 (by
    have := hb s [.ref a, v] I.kIn (by simpa using hl)
    simpa using this) r2 q) fun r s' hq => ?_)
  cases r with
  | error e => exact hx pins σ H s e s' I hq
  | ok fl =>
    cases fl with
    | ret w =>
      obtain ⟨z, H', I', rz, b, rfl, qb⟩ := I.after hq
      cases rz
      exact ⟨b, rfl, .bl (!b), H', I', rfl, qb⟩
    | next => exact False.elim hq
    | brk => exact False.elim hq
    | cont => exact False.elim hq
end
end Fm

namespace Fm
open PySem PySem.Spec PyProof.Rows L2
/-! ### tables as data: equal as Python sees them -/
def GoodT (t : Str × List Str) : Prop := IsNm t.1 ∧ (∀ w ∈ t.2, IsNm w) ∧ t.2.Nodup ∧ 1 ≤ t.2.length ∧ t.2.length ≤ 4
def GoodTs (tbs : List (Str × List Str)) : Prop := (∀ t ∈ tbs, GoodT t) ∧ (tbs.map (·.1)).Nodup ∧ 1 ≤ tbs.length ∧ tbs.length ≤ 5
theorem TabD.good {d : PyData} {t : Str × List Str} (h : TabD d t) : GoodT t := by
  obtain ⟨e, _, n, m⟩ := h
  exact ⟨n, m.2.1, m.2.2.1, m.2.2.2.1, m.2.2.2.2⟩
theorem TabsD.good : ∀ {ds : List PyData} {ts : List (Str × List Str)}, TabsD ds ts → ∀ t ∈ ts, GoodT t
  | _, _, .cons a b, t, h => by
    rcases List.mem_cons.mp h with rfl | h
    · exact a.good
    · exact b.good t h
theorem ShpD.good {d : PyData} {ts : List (Str × List Str)} (h : ShpD d ts) : GoodTs ts := by
  obtain ⟨ds, _, l1, l5, t1, t2⟩ := h
  exact ⟨t1.good, t2, by rw [← t1.len]; exact l1, by rw [← t1.len]; exact l5⟩
theorem eqv_strs : ∀ ws vs : List Str, PyData.eqvAll (ws.map .str) (vs.map .str) = decide (ws = vs)
  | [], [] => by simp [PyData.eqvAll]
  | [], _ :: _ => by simp [PyData.eqvAll]
  | _ :: _, [] => by simp [PyData.eqvAll]
  | w :: ws, v :: vs => by
    simp only [List.map_cons, PyData.eqvAll, PyData.eqv, eqv_strs ws vs]
    by_cases h : w = v
    · subst h; simp
    · simp [h]
theorem eqv_tab (t u : Str × List Str) : PyData.eqv (dTab t) (dTab u) = decide (t = u) := by
  simp only [dTab, PyData.eqv, PyData.eqvAll, eqv_strs]
  by_cases h : t.1 = u.1
  · by_cases h' : t.2 = u.2
    · have : t = u := Prod.ext h h'
      subst this; simp
    · have : t ≠ u := fun z => h' (by rw [z])
      simp [h', this]
  · have : t ≠ u := fun z => h (by rw [z])
    simp [h, this]
theorem eqv_tabsL : ∀ ts us : List (Str × List Str), PyData.eqvAll (ts.map dTab) (us.map dTab) = decide (ts = us)
  | [], [] => by simp [PyData.eqvAll]
  | [], _ :: _ => by simp [PyData.eqvAll]
  | _ :: _, [] => by simp [PyData.eqvAll]
  | t :: ts, u :: us => by
    simp only [List.map_cons, PyData.eqvAll, eqv_tab, eqv_tabsL ts us]
    by_cases h : t = u
    · subst h; simp
    · simp [h]
theorem eqv_tabs (ts us : List (Str × List Str)) : PyData.eqv (dTabs ts) (dTabs us) = decide (ts = us) := by
  simp only [dTabs, PyData.eqv, eqv_tabsL]
theorem strOk_nm {w : Str} (h : IsNm w) : PyData.strOk w = true := by
  unfold PyData.strOk
  rw [Array.all_eq_true']
  intro c hc
  have := h.2.2 c (by simpa using hc)
  simp
  omega
theorem lay_strs : ∀ {ws : List Str}, (∀ w ∈ ws, IsNm w) → PyData.canLayAll0 (ws.map .str) = true
  | [], _ => by simp [PyData.canLayAll0]
  | w :: ws, h => by
    simp only [List.map_cons, PyData.canLayAll0, PyData.canLay0, strOk_nm (h w List.mem_cons_self), lay_strs fun x hx => h x (List.mem_cons_of_mem _ hx), Bool.and_self]
theorem lay_tabs : ∀ {ts : List (Str × List Str)}, (∀ t ∈ ts, GoodT t) → PyData.canLayAll0 (ts.map dTab) = true
  | [], _ => by simp [PyData.canLayAll0]
  | t :: ts, h => by
    have g := h t List.mem_cons_self
    simp only [List.map_cons, PyData.canLayAll0, dTab, PyData.canLay0, strOk_nm g.1, lay_strs g.2.1, lay_tabs fun x hx => h x (List.mem_cons_of_mem _ hx), Bool.and_self]
theorem dep_strs : ∀ ws : List Str, PyData.depthAll (ws.map .str) = 0
  | [] => by simp [PyData.depthAll]
  | w :: ws => by simp [PyData.depthAll, PyData.depth, dep_strs ws]
theorem dep_tabs : ∀ ts : List (Str × List Str), PyData.depthAll (ts.map dTab) ≤ 2
  | [] => by simp [PyData.depthAll]
  | t :: ts => by
    have := dep_tabs ts
    simp only [List.map_cons, PyData.depthAll, dTab, PyData.depth, dep_strs]
    omega
theorem shaped_tabs {ts : List (Str × List Str)} (h : ∀ t ∈ ts, GoodT t) : SeqAt.shaped (dTabs ts) = true := by
  have := dep_tabs ts
  unfold SeqAt.shaped
  simp only [dTabs, PyData.canLay0, PyData.depth, lay_tabs h, Bool.true_and, decide_eq_true_eq]
  omega
mutual
theorem Dt.dp {S : Addr → Prop} {q : Bool} {H : Hp} {K : PySem.W.Frag} : ∀ {n : Nat} {v : V} {d : PyData}, Dt S q H n v d → d.canLay0 = true → Dp K H v d
  | _, _, _, .non, _ => .non
  | _, _, _, .bl b, _ => .bl b
  | _, _, _, .int b, _ => .int b
  | _, _, _, .str b h, _ => .str b
  | _, _, _, .lst r l a, h => .lst (.inl r) (DtAll.dp a (by simpa [PyData.canLay0] using h))
  | _, _, _, .tup r l a, h => .tup (.inl (.inl r)) (DtAll.dp a (by simpa [PyData.canLay0] using h))
  | _, _, _, .dic r l a, h => by simp [PyData.canLay0] at h
theorem DtAll.dp {S : Addr → Prop} {q : Bool} {H : Hp} {K : PySem.W.Frag} : ∀ {n : Nat} {v : List V} {d : List PyData}, DtAll S q H n v d → PyData.canLayAll0 d = true → DpAll K H v d
  | _, _, _, .nil, _ => .nil
  | _, _, _, .cons a b, h => by
    have h' := Bool.and_eq_true_iff.mp (show (_ && _) = true by simpa only [PyData.canLayAll0] using h)
    exact .cons (Dt.dp a h'.1) (DtAll.dp b h'.2)
end
theorem lay_dTabs {ts : List (Str × List Str)} (h : ∀ t ∈ ts, GoodT t) : (dTabs ts).canLay0 = true := by
  simp only [dTabs, PyData.canLay0, lay_tabs h]
/-- an instance's class, as isinstance asks of it -/
structure InsX (K : PySem.W.Frag) (C : Addr) : Prop where
  cl : Cls K C
  ha : PySem.W.findIn K (.ref C) "__class__" = some (some (.builtin "object.__class__"))
  hn : PySem.W.specialIn K (.builtin "object.__class__") "__get__" = some (some (.builtin "getset_descriptor.__get__"))
  htk : PySem.W.takesIn K (.builtin "object.__class__") = some true
  hm : PySem.W.mroIn K C (.type "object") = some true
  dat : ∀ T ∈ ["NoneType", "bool", "int", "str", "list", "tuple", "dict"], PySem.W.kitOne K (.type T) (.ref C) = some false
theorem InsX.ty {K : PySem.W.Frag} {C : Addr} (T : InsX K C) {H : Hp} {a dx : Addr} {fs : List (Str × V)} (e : H a = some (.ins C dx fs)) : TyX K H (.ref a) (.ref C) := .base (.ins e T.cl T.ha T.hn T.htk T.hm)
theorem InsX.datD {K : PySem.W.Frag} {C : Addr} (T : InsX K C) (d : PyData) : PySem.W.kitOne K (.type (tyS d)) (.ref C) = some false := T.dat _ (by cases d <;> simp [tyS])
theorem kit_self {K : PySem.W.Frag} {C : Addr} : PySem.W.kitOne K (.ref C) (.ref C) = some true := by
  unfold PySem.W.kitOne
  rw [if_pos (by simp)]
def spShEq (C : Addr) : Sp := fun vs H Q _ => ∃ (p : Addr) (y : V) (tbs : List (Str × List Str)), vs = [.ref p, y] ∧ ShapeAt C H p tbs ∧ (∀ t ∈ tbs, GoodT t) ∧
  ((∃ p' us, y = .ref p' ∧ ShapeAt C H p' us ∧ (∀ t ∈ us, GoodT t) ∧ Q (.bl (decide (tbs = us))) H) ∨ ∃ S q n d, Dt S q H n y d ∧ Q (.bl false) H)
def spFields (C CE : Addr) : Sp := fun vs H Q E => ∃ (p : Addr) (S : Addr → Prop) (q : Bool) (n : Nat) (x : V) (d : PyData) (tbs : List (Str × List Str)), vs = [.ref p, x] ∧ ShapeAt C H p tbs ∧ (tbs.map (·.1)).Nodup ∧ Dt S q H n x d ∧
  (∀ t ∈ tbs, d = .str t.1 → ∀ a : Addr, Im H 2 (.ref a) (.tuple (t.2.map .str)) → Q (.ref a) H) ∧
  ((∀ t ∈ tbs, d ≠ .str t.1) → ∀ (dd : Addr) (H' : Hp), Kp [] H H' → H dd = none → H' dd = some (.xd [("value", x)]) → E (.ref CE) (some dd) H')
theorem Im.tab {H : Hp} {n : Nat} {v : V} {t : Str × List Str} (h : Im H (n + 2) v (dTab t)) : ∃ a b, v = .ref a ∧ H a = some (.tup [.str t.1, .ref b]) ∧ Im H (n + 1) (.ref b) (.tuple (t.2.map .str)) := by
  cases h with
  | tup r l a =>
    cases a with
    | cons a0 a =>
      cases a with
      | cons a1 a =>
        cases a
        cases a0
        cases id a1 with
        | tup r1 l1 a11 => exact ⟨_, _, rfl, r, a1⟩
end Fm

namespace Fm
open PySem PySem.Spec PyProof.Rows L2
/-! ### tables as data: equal as Python sees them -/
section
variable {P : Program} {w : World} {K : PySem.W.Frag} {mg : Str → Option Value} {base : Heap}
theorem ok_shape_eq {f C : Addr} {fd : FuncData} (B : Bi mg) (F : Fun K "__eq__" "Shape.__eq__" s_Shape_eq f fd) (T : ShCls K mg C) (X : InsX K C) : FnOk P w K mg base CX0 1 f fd ["self", "other"] (spShEq C) := by
  refine F.ok sc_Shape_eq (fun vs H Q E h => ?_) (fun cdv A outer s H vs Q E hr h => ?_)
  · obtain ⟨p, y, tbs, rfl, _⟩ := h; rfl
  · obtain ⟨p, y, tbs, rfl, ⟨dx, v, hp, iv⟩, g, h⟩ := h
    refine ⟨_, (pss_one (ps_ret (pe_and (pe_callB call_isi (by rfl) B.isinstance (by decide +kernel) (pa_cons (pv 1) (pa_cons (pe_glob (v := .ref C) rfl T.mgC rfl) pa_nil))) (pe_one (pe_cmpR (op_eqD hr.units) (pe_fld (pv 0) rfl) (pe_fld (pv 1) rfl) (nomark _)))))), ?_⟩
    rcases h with ⟨p', us, rfl, ⟨dx', v', hp', iv'⟩, g', q⟩ | ⟨S, qq, n, d, hd, q⟩
    · refine ⟨_, rfl, _, _, _, _, _, rfl, .own C, X.ty hp', kit_self, _, rfl, iteT ?_⟩
      refine ⟨_, rfl, p, C, dx, _, _, rfl, hp, T.cl, T.nT, rfl, _, rfl, p', C, dx', _, _, rfl, hp', T.cl, T.nT, rfl, ?_⟩
      refine ⟨_, _, iv.dp (lay_dTabs g), iv'.dp (lay_dTabs g'), shaped_tabs g, shaped_tabs g', ?_⟩
      rw [eqv_tabs]
      exact q
    · exact ⟨_, rfl, _, _, _, _, _, rfl, .own C, hd.ty, X.datD d, _, rfl, iteF q⟩
theorem ok_fields_of {f C CE : Addr} {fd : FuncData} (B : Bi mg) (F : Fun K "fields_of" "Shape.fields_of" s_Shape_fields_of f fd) (T : ShCls K mg C) (ER : ∀ base, Err P w K mg base "BadName" "value" CE) :
    FnOk P w K mg base (L2.CX P w) 3 f fd ["self", "name"] (spFields C CE) := by
  refine F.okX sc_Shape_fields_of (fun vs H Q E h => ?_) (fun cdv A outer s H vs Q E hr h => ?_)
  · obtain ⟨p, S, q, n, x, d, tbs, rfl, _⟩ := h; rfl
  · obtain ⟨p, S, q, n, x, d, tbs, rfl, ⟨dx, v, hp, iv⟩, nd, hx, kQ, kE⟩ := h
    have ER := ER base
    refine ⟨_, (C8.pss_cut (ps_if (pt_val (pe_callB call_isi (by rfl) B.isinstance (by decide +kernel) (pa_cons (pv 1) (pa_cons (pe_bltn (v := .ty "str") (by rfl) B.str (by decide +kernel) rfl) pa_nil))))
  (pss_one (ps_for (passes_of rfl) rfl (pi_tup (pe_fld (pv 0) rfl)) (pg_tup rfl (pgs_cons (pg_name (i := 2) sc_Shape_fields_of.nd rfl (by first | exact Or.inl rfl | exact Or.inr rfl)) (pgs_cons (pg_name (i := 3) sc_Shape_fields_of.nd rfl (by first | exact Or.inl rfl | exact Or.inr rfl)) pgs_nil)))
  (pss_one (ps_if (pt_cmpR op_eq (pv 2) (pv 1) (nomark _))
  (pss_one (ps_ret (pv 3)))
  pss_nil))))
  pss_nil)
  (pss_one (ps_raiseE rfl ER hr (by decide) (takes_of rfl rfl rfl rfl) (pa_cons (pv 1) pa_nil)))), ?_⟩
    refine ⟨fun σ H' => (∃ v w : Option V, σ = [some (.ref p), some x, v, w]) ∧ H' = H ∧ ∀ t ∈ tbs, d ≠ .str t.1, ?_, ?_⟩
    · refine ⟨_, rfl, _, _, _, _, _, rfl, .ty _, hx.ty, kit_ty (kb_str _), _, rfl, ?_⟩
      cases hx with
      | str z hz =>
        refine iteT ?_
        cases id iv with
        | @tup m a vs _ r l av =>
          have el : vs.length = (tbs.map dTab).length := av.len
          refine ⟨_, rfl, p, C, dx, _, _, rfl, hp, T.cl, T.nT, rfl, a, rfl, ⟨_, .inl (.inl r)⟩, ?_⟩
          refine for_it (walk_tup (xs := vs)) (fun i σ H' => (∃ v w : Option V, σ = [some (.ref p), some (.str z), v, w]) ∧ H' = H ∧ ∀ t ∈ tbs.take i, z ≠ t.1) ⟨⟨none, none, rfl⟩, rfl, (fun t h => by cases h)⟩ (fun _ _ _ _ ⟨_, e, _⟩ => by rw [e]; exact .inl (.inl r)) ?_ ?_
          · rintro i u σ H1 H2 hi ⟨⟨v0, w0, rfl⟩, rfl, hj⟩ ⟨rfl, hu⟩
            obtain ⟨du, hdu, dt⟩ := av.getV hu
            rw [List.getElem?_map] at hdu
            cases et : tbs[i]? with
            | none => rw [et] at hdu; cases hdu
            | some t =>
              rw [et] at hdu
              cases hdu
              obtain ⟨a', b', rfl, h1, h2⟩ := Im.tab (n := 0) dt
              refine ⟨a', _, rfl, SqT.of h1, rfl, _, _, rfl, _, _, rfl, rfl, ?_⟩
              refine ⟨_, rfl, _, rfl, rfl, _, rfl, ?_⟩
              by_cases hz' : t.1 = z
              · rw [decide_eq_true (show V.str t.1 = V.str z by rw [hz'])]
                refine iteT ?_
                exact ⟨_, rfl, kQ t (List.mem_of_getElem? et) (by rw [hz']) b' (h2.mono (by decide))⟩
              · rw [decide_eq_false (fun e => hz' (by injection e))]
                refine iteF ?_
                refine ⟨⟨_, _, rfl⟩, rfl, fun u hu' => ?_⟩
                rw [take_snoc et] at hu'
                rcases List.mem_append.mp hu' with h | h
                · exact hj u h
                · rw [List.mem_singleton.mp h]; exact fun e => hz' e.symm
          · rintro σ H1 ⟨⟨v0, w0, rfl⟩, rfl, hj⟩
            refine ⟨⟨_, _, rfl⟩, rfl, fun t ht e => ?_⟩
            rw [List.length_map] at el
            rw [el, List.take_length] at hj
            exact hj t ht (by injection e)
      | _ =>
        refine iteF ?_
        exact ⟨⟨_, _, rfl⟩, rfl, fun t _ e => by cases e⟩
    · rintro σ' H1 ⟨⟨v0, w0, rfl⟩, rfl, hn⟩
      exact ⟨_, rfl, by simp, fun b hb => err_in hb fun dd hdd => kE hn dd _ (Kp.new hdd) hdd upd_same⟩
end
end Fm

namespace Fm
open PySem PySem.Spec PyProof.Rows L2
/-! ### values and rows of values -/
def InV (n : Int) : Prop := -1000000000 ≤ n ∧ n ≤ 1000000000
def VlD (d : PyData) : Prop := ∃ n, d = .int n ∧ InV n
def spIsVal : Sp := fun vs H Q _ => ∃ (S : Addr → Prop) (q : Bool) (n : Nat) (x : V) (d : PyData), vs = [x] ∧ Dt S q H n x d ∧ Q (.bl (bP (VlD d))) H
/-- a row of many values -/
def ValsD (many : Nat) (d : PyData) (ns : List Int) : Prop := RowD d (ns.map .int) ∧ ns.length = many ∧ ∀ n ∈ ns, InV n
def spAreVals : Sp := fun vs H Q _ => ∃ (S : Addr → Prop) (q : Bool) (n : Nat) (x : V) (d : PyData) (many : Nat), vs = [x, .int many] ∧ Dt S q H n x d ∧ ∀ H', Kp [] H H' → Q (.bl (bP (∃ ns, ValsD many d ns))) H'
theorem ints_map_inj : ∀ {a b : List Int}, a.map PyData.int = b.map PyData.int → a = b
  | [], [], _ => rfl
  | [], _ :: _, h => by cases h
  | _ :: _, [], h => by cases h
  | x :: a, y :: b, h => by
    injection h with h1 h2
    injection h1 with h1
    rw [h1, ints_map_inj h2]
theorem DtAll.ints {S : Addr → Prop} {q : Bool} {H : Hp} {n : Nat} : ∀ {v : List V} {ws : List Int}, DtAll S q H n v (ws.map .int) → v = ws.map V.int
  | [], [], _ => rfl
  | _ :: _, [], h => by cases h
  | [], _ :: _, h => by cases h
  | x :: v, w :: ws, h => by
    cases h with
    | cons a b =>
      cases a
      rw [DtAll.ints b]; rfl
section
variable {P : Program} {w : World} {K : PySem.W.Frag} {mg : Str → Option Value} {base : Heap}
theorem ok_is_integer (B : Bi mg) (D : Dfn K mg "is_integer" s_is_integer ["thing"]) : Has P w K mg base CX0 "is_integer" ["thing"] 1 spInt := by
  refine D.has sc_is_integer (fun vs H Q E h => ?_) (fun f cdv A outer s H vs Q E hr h => ?_)
  · obtain ⟨S, q, n, x, d, rfl, _⟩ := h; rfl
  · obtain ⟨S, q, n, x, d, rfl, hx, k⟩ := h
    refine ⟨_, (pss_one (ps_ret (pe_and (pe_callB call_isi (by rfl) B.isinstance (by decide +kernel) (pa_cons (pv 0) (pa_cons (pe_bltn (v := .ty "int") (by rfl) B.int (by decide +kernel) rfl) pa_nil))) (pe_one (pe_not (pe_callB call_isi (by rfl) B.isinstance (by decide +kernel) (pa_cons (pv 0) (pa_cons (pe_bltn (v := .ty "bool") (by rfl) B.bool (by decide +kernel) rfl) pa_nil)))))))), ?_⟩
    refine ⟨_, rfl, _, _, _, _, _, rfl, .ty _, hx.ty, kit_ty (kb_int _), _, rfl, ?_⟩
    cases hi : isI d with
    | false => rw [hi] at k; exact iteF k
    | true => rw [hi] at k; exact iteT ⟨_, rfl, _, _, _, _, _, rfl, .ty _, hx.ty, kit_ty (kb_bool _), _, rfl, k⟩
theorem ok_is_value {tk : Tok} (B : Bi mg) (M : mg "MOST_VALUE" = some (.int 1000000000 tk)) (D : Dfn K mg "is_value" s_is_value ["thing"]) (G_is_integer : Has P w K mg base CX0 "is_integer" ["thing"] 1 spInt) : Has P w K mg base CX0 "is_value" ["thing"] 2 spIsVal := by
  refine D.has sc_is_value (fun vs H Q E h => ?_) (fun f cdv A outer s H vs Q E hr h => ?_)
  · obtain ⟨S, q, n, x, d, rfl, _⟩ := h; rfl
  · obtain ⟨S, q, n, x, d, rfl, hx, k⟩ := h
    refine ⟨_, (pss_one (ps_ret (pe_and (pe_has G_is_integer (hr.mono (by omega)) (pa_cons (pv 0) pa_nil)) (pe_one (pe_chain op_le op_le (pe_un un_neg (pe_glob (v := .int 1000000000) rfl M ⟨_, rfl⟩)) (pv 0) (pe_glob (v := .int 1000000000) rfl M ⟨_, rfl⟩)))))), ?_⟩
    refine ⟨_, rfl, S, q, n, x, d, rfl, hx, _, rfl, ?_⟩
    cases hi : (isI d && !isB d) with
    | false =>
      refine iteF ?_
      rw [bP_f] at k
      · exact k
      · rintro ⟨n, rfl, _⟩; cases hi
    | true =>
      refine iteT ?_
      cases hx with
      | int i =>
        refine ⟨_, rfl, _, rfl, _, _, rfl, rfl, ?_⟩
        refine ⟨_, rfl, ?_⟩
        refine ite2 (fun h1 => ?_) (fun h1 => ?_)
        · have h1 := of_decide_eq_true h1
          refine ⟨_, _, rfl, rfl, ?_⟩
          by_cases h2 : i ≤ 1000000000
          · rw [bP_t ⟨i, rfl, h1, h2⟩] at k
            show Q (V.bl (decide (i ≤ 1000000000))) H
            rw [decide_eq_true h2]; exact k
          · show Q (V.bl (decide (i ≤ 1000000000))) H
            rw [decide_eq_false h2]
            rw [bP_f] at k
            · exact k
            · rintro ⟨n, e, _, h3⟩; cases e; exact h2 h3
        · have h1 : ¬ (-1000000000 ≤ i) := fun h => h1 (decide_eq_true h)
          rw [bP_f] at k
          · exact k
          · rintro ⟨n, e, h3, _⟩; cases e; exact h1 h3
      | _ => cases hi
theorem ok_are_values (B : Bi mg) (D : Dfn K mg "are_values" s_are_values ["thing", "many"]) (G_is_row : Has P w K mg base CX0 "is_row" ["thing"] 1 spIsRow) (G_is_value : Has P w K mg base CX0 "is_value" ["thing"] 2 spIsVal) : Has P w K mg base CX0 "are_values" ["thing", "many"] 3 spAreVals := by
  refine D.has sc_are_values (fun vs H Q E h => ?_) (fun f cdv A outer s H vs Q E hr h => ?_)
  · obtain ⟨S, q, n, x, d, many, rfl, _⟩ := h; rfl
  · obtain ⟨S, q, n, x, d, many, rfl, hx, k⟩ := h
    refine ⟨_, (pss_cons (ps_if (PW.pt (pw_or (pt_not (pt_val (pe_has G_is_row (hr.mono (by omega)) (pa_cons (pv 0) pa_nil)))) (pw_or1 (pt_cmpR op_ne (pe_callB call_len (by rfl) B.len PySem.boot_len (pa_cons (pv 0) pa_nil)) (pv 1) (nomark _)))))
  (pss_one (ps_ret pe_bl))
  pss_nil)
  (pss_cons (ps_for PassesOwn.never rfl (pi_or (pi_list (pv 0)) (pi_tup (pv 0))) (pg_name (i := 2) sc_are_values.nd rfl (by first | exact Or.inl rfl | exact Or.inr rfl))
  (pss_one (ps_if (pt_not (pt_val (pe_has G_is_value (hr.mono (by omega)) (pa_cons (pv 2) pa_nil))))
  (pss_one (ps_ret pe_bl))
  pss_nil)))
  (pss_one (ps_ret pe_bl)))), ?_⟩
    refine ⟨_, rfl, S, q, n, x, d, rfl, hx, fun H1 k1 => ⟨_, rfl, ?_⟩⟩
    cases hd : isRowD d with
    | false =>
      refine iteT (iteT ?_)
      rw [bP_f] at k
      · exact k _ k1
      · rintro ⟨ns, r, _⟩
        rcases r with rfl | rfl <;> cases hd
    | true =>
      refine iteF ?_
      obtain ⟨ds, m, p, xs, rfl, rfl, rx, lx, _, ax, hds⟩ := (hx.keep k1).row hd
      have hrow : RowD d ds := hds.elim (fun h => .inl h.1) (fun h => .inr h.1)
      have rowu : ∀ es, RowD d es → es = ds := fun es h => by
        rcases hds with ⟨rfl, _⟩ | ⟨rfl, _⟩ <;> rcases h with e | e <;> first | (cases e; rfl) | cases e
      have el := ax.len
      refine ⟨_, rfl, _, _, rfl, rx.len, _, rfl, rfl, _, rfl, ?_⟩
      by_cases hm : xs.length = many
      · rw [show (!decide (V.int (xs.length : Int) = V.int (many : Int))) = false by rw [hm]; simp]
        refine iteF ?_
        rcases hds with ⟨_, _, r⟩ | ⟨_, _, r⟩
        · refine .inl ⟨_, rfl, p, rfl, ⟨_, .inl r⟩, ?_⟩
          refine for_it (walk_list (xs := xs)) (fun i σ H' => (∃ o, σ = [some (.ref p), some (.int many), o]) ∧ Kp [] H1 H' ∧ ∃ ns : List Int, ds.take i = ns.map .int ∧ ∀ n ∈ ns, InV n) ⟨⟨none, rfl⟩, Kp.refl _, [], rfl, (fun n h => nomatch h)⟩ (fun i σ H' _ h => .inl (h.2.1.rd (fun z => nomatch z) r)) ?_ ?_
          · rintro i u σ H2 H3 hi ⟨⟨o, rfl⟩, k2, ns, e1, e2⟩ ⟨rfl, hu⟩
            obtain ⟨e, he, du⟩ := ax.getV hu
            refine ⟨_, rfl, S, q, m, u, e, rfl, du.keep k2, _, rfl, ?_⟩
            by_cases hv : VlD e
            · rw [bP_t hv]
              refine iteF ?_
              obtain ⟨n, rfl, hn⟩ := hv
              refine ⟨⟨_, rfl⟩, k2, ns ++ [n], by rw [take_snoc he, e1, List.map_append]; rfl, fun n' hn' => ?_⟩
              rcases List.mem_append.mp hn' with h | h
              · exact e2 n' h
              · rw [List.mem_singleton.mp h]; exact hn
            · rw [bP_f hv]
              refine iteT ?_
              rw [bP_f] at k
              · exact k _ (k1.trans k2)
              · rintro ⟨us, hr, _, hi'⟩
                have eu := rowu _ hr
                rw [← eu, List.getElem?_map] at he
                cases e5 : us[i]? with
                | none => rw [e5] at he; cases he
                | some n =>
                  rw [e5] at he
                  cases he
                  exact hv ⟨n, rfl, hi' n (List.mem_of_getElem? e5)⟩
          · rintro σ H2 ⟨⟨o, rfl⟩, k2, ns, e1, e2⟩
            rw [ax.len, List.take_length] at e1
            rw [bP_t] at k
            · exact k _ (k1.trans k2)
            · refine ⟨ns, by rw [← e1]; exact hrow, ?_, e2⟩
              have := congrArg List.length e1
              rw [List.length_map] at this
              omega
        · refine .inr ⟨_, rfl, p, rfl, ⟨_, .inl (.inl r)⟩, ?_⟩
          refine for_it (walk_tup (xs := xs)) (fun i σ H' => (∃ o, σ = [some (.ref p), some (.int many), o]) ∧ Kp [] H1 H' ∧ ∃ ns : List Int, ds.take i = ns.map .int ∧ ∀ n ∈ ns, InV n) ⟨⟨none, rfl⟩, Kp.refl _, [], rfl, (fun n h => nomatch h)⟩ (fun i σ H' _ h => .inl (.inl (h.2.1.tp _ _ r))) ?_ ?_
          · rintro i u σ H2 H3 hi ⟨⟨o, rfl⟩, k2, ns, e1, e2⟩ ⟨rfl, hu⟩
            obtain ⟨e, he, du⟩ := ax.getV hu
            refine ⟨_, rfl, S, q, m, u, e, rfl, du.keep k2, _, rfl, ?_⟩
            by_cases hv : VlD e
            · rw [bP_t hv]
              refine iteF ?_
              obtain ⟨n, rfl, hn⟩ := hv
              refine ⟨⟨_, rfl⟩, k2, ns ++ [n], by rw [take_snoc he, e1, List.map_append]; rfl, fun n' hn' => ?_⟩
              rcases List.mem_append.mp hn' with h | h
              · exact e2 n' h
              · rw [List.mem_singleton.mp h]; exact hn
            · rw [bP_f hv]
              refine iteT ?_
              rw [bP_f] at k
              · exact k _ (k1.trans k2)
              · rintro ⟨us, hr, _, hi'⟩
                have eu := rowu _ hr
                rw [← eu, List.getElem?_map] at he
                cases e5 : us[i]? with
                | none => rw [e5] at he; cases he
                | some n =>
                  rw [e5] at he
                  cases he
                  exact hv ⟨n, rfl, hi' n (List.mem_of_getElem? e5)⟩
          · rintro σ H2 ⟨⟨o, rfl⟩, k2, ns, e1, e2⟩
            rw [ax.len, List.take_length] at e1
            rw [bP_t] at k
            · exact k _ (k1.trans k2)
            · refine ⟨ns, by rw [← e1]; exact hrow, ?_, e2⟩
              have := congrArg List.length e1
              rw [List.length_map] at this
              omega
      · rw [show (!decide (V.int (xs.length : Int) = V.int (many : Int))) = true by rw [decide_eq_false (fun z => hm (by injection z with z; omega))]; rfl]
        refine iteT ?_
        rw [bP_f] at k
        · exact k _ k1
        · rintro ⟨ns, r, hl, _⟩
          have := rowu _ r
          rw [← this, List.length_map] at el
          omega
end
end Fm

namespace Fm
open PySem PySem.Spec PyProof.Rows L2
/-! ### rows of tables, as they are given and as they are kept -/
inductive ValsAll (m : Nat) : List PyData → List (List Int) → Prop
  | nil : ValsAll m [] []
  | cons {e : PyData} {es : List PyData} {r : List Int} {rs : List (List Int)} : ValsD m e r → ValsAll m es rs → ValsAll m (e :: es) (r :: rs)
theorem ValsAll.len {m : Nat} : ∀ {es : List PyData} {rs : List (List Int)}, ValsAll m es rs → es.length = rs.length
  | _, _, .nil => rfl
  | _, _, .cons _ h => congrArg (· + 1) h.len
theorem ValsAll.get {m : Nat} : ∀ {es : List PyData} {rs : List (List Int)}, ValsAll m es rs → ∀ {i : Nat} {e : PyData}, es[i]? = some e → ∃ r, rs[i]? = some r ∧ ValsD m e r
  | _, _, .cons a b, 0, e, h => by cases h; exact ⟨_, rfl, a⟩
  | _, _, .cons a b, i + 1, e, h => b.get (i := i) h
/-- the rows r of a table with m fields, given as v -/
def RowsV (H : Hp) (v : V) (m : Nat) (r : List (List Int)) : Prop := ∃ d es, Dt (fun _ => True) false H 2 v d ∧ RowD d es ∧ ValsAll m es r
theorem RowsV.keep {H H' : Hp} {v : V} {m : Nat} {r : List (List Int)} (h : RowsV H v m r) (k : Kp [] H H') : RowsV H' v m r := let ⟨d, es, a, b, c⟩ := h; ⟨d, es, a.keep k, b, c⟩
def TabIn (H : Hp) (kvs : List (Key × V)) (t : Str × List Str) (r : List (List Int)) : Prop := (∃ v, valV kvs (.inr t.1) = some v ∧ RowsV H v t.2.length r) ∨ (valV kvs (.inr t.1) = none ∧ r = [])
theorem TabIn.keep {H H' : Hp} {kvs : List (Key × V)} {t : Str × List Str} {r : List (List Int)} (h : TabIn H kvs t r) (k : Kp [] H H') : TabIn H' kvs t r := h.elim (fun ⟨v, a, b⟩ => .inl ⟨v, a, b.keep k⟩) .inr
inductive InAll (H : Hp) (kvs : List (Key × V)) : List (Str × List Str) → List (List (List Int)) → Prop
  | nil : InAll H kvs [] []
  | cons {t : Str × List Str} {ts : List (Str × List Str)} {r : List (List Int)} {R : List (List (List Int))} : TabIn H kvs t r → InAll H kvs ts R → InAll H kvs (t :: ts) (r :: R)
theorem InAll.keep {H H' : Hp} {kvs : List (Key × V)} (k : Kp [] H H') : ∀ {ts : List (Str × List Str)} {R : List (List (List Int))}, InAll H kvs ts R → InAll H' kvs ts R
  | _, _, .nil => .nil
  | _, _, .cons a b => .cons (a.keep k) (b.keep k)
theorem InAll.len {H : Hp} {kvs : List (Key × V)} : ∀ {ts : List (Str × List Str)} {R : List (List (List Int))}, InAll H kvs ts R → ts.length = R.length
  | _, _, .nil => rfl
  | _, _, .cons _ b => congrArg (· + 1) b.len
theorem InAll.get {H : Hp} {kvs : List (Key × V)} : ∀ {ts : List (Str × List Str)} {R : List (List (List Int))}, InAll H kvs ts R → ∀ {i : Nat} {t : Str × List Str}, ts[i]? = some t → ∃ r, R[i]? = some r ∧ TabIn H kvs t r
  | _, _, .cons a b, 0, t, h => by cases h; exact ⟨_, rfl, a⟩
  | _, _, .cons a b, i + 1, t, h => b.get (i := i) h
/-- a dict of rows for the tables tbs: R -/
structure DictIn (H : Hp) (d : Addr) (tbs : List (Str × List Str)) (R : List (List (List Int))) : Prop where
  ex : ∃ kvs, H d = some (.dK kvs) ∧ kvs.length ≤ 1000 ∧ (∀ kv ∈ kvs, ∃ t ∈ tbs, kv.1 = .inr t.1) ∧ InAll H kvs tbs R
def dRow (r : List Int) : PyData := .tuple (r.map .int)
def dRows (R : List (List Int)) : PyData := .tuple (R.map dRow)
inductive KvAt (H : Hp) : List (Key × V) → List (Str × List Str) → List (List (List Int)) → Prop
  | nil : KvAt H [] [] []
  | cons {v : V} {kvs : List (Key × V)} {t : Str × List Str} {ts : List (Str × List Str)} {r : List (List Int)} {R : List (List (List Int))} : Im H 2 v (dRows r) → KvAt H kvs ts R → KvAt H ((.inr t.1, v) :: kvs) (t :: ts) (r :: R)
def StoreAt (C CS : Addr) (H : Hp) (p : Addr) (tbs : List (Str × List Str)) (R : List (List (List Int))) : Prop :=
  ∃ dx ps kd kvs, H p = some (.ins C dx [("shape", .ref ps), ("kept", .ref kd)]) ∧ ShapeAt CS H ps tbs ∧ H kd = some (.dK kvs) ∧ KvAt H kvs tbs R
def spCheck (CS : Addr) : Sp := fun vs H Q _ => ∃ (ps d : Addr) (tbs : List (Str × List Str)) (R : List (List (List Int))), vs = [.ref ps, .ref d] ∧ ShapeAt CS H ps tbs ∧ GoodTs tbs ∧ DictIn H d tbs R ∧ ∀ H', Kp [] H H' → Q .non H'
theorem ShapeAt.rows {C : Addr} {H : Hp} {p : Addr} {tbs : List (Str × List Str)} (h : ShapeAt C H p tbs) : ∃ dx a xs, H p = some (.ins C dx [("tables", .ref a)]) ∧ H a = some (.tup xs) ∧ ImAll H 2 xs (tbs.map dTab) := by
  obtain ⟨dx, v, h1, h2⟩ := h
  cases h2 with
  | tup r l a => exact ⟨dx, _, _, h1, r, a⟩
theorem tab_at {H H' : Hp} {xs : List V} {tbs : List (Str × List Str)} {i : Nat} {u : V} (ix : ImAll H 2 xs (tbs.map dTab)) (k : Kp [] H H') (hu : xs[i]? = some u) : ∃ a b t, u = .ref a ∧ tbs[i]? = some t ∧ H' a = some (.tup [.str t.1, .ref b]) ∧ H' b = some (.tup (t.2.map V.str)) := by
  obtain ⟨du, hdu, dt⟩ := ix.getV hu
  rw [List.getElem?_map] at hdu
  cases et : tbs[i]? with
  | none => rw [et] at hdu; cases hdu
  | some tt =>
    rw [et] at hdu
    cases hdu
    obtain ⟨a', b', rfl, e1, e2⟩ := Im.tab (n := 0) (Im.kp k dt)
    refine ⟨a', b', tt, rfl, rfl, e1, ?_⟩
    cases e2 with
    | tup r _ a => rw [r, DtAll.strs a]
section
variable {P : Program} {w : World} {K : PySem.W.Frag} {mg : Str → Option Value} {base : Heap}
theorem ok_check {CS : Addr} (B : Bi mg) (D : Dfn K mg "check_rows" s_check_rows ["shape", "rows"]) (T : ShCls K mg CS) (G_is_row : Has P w K mg base CX0 "is_row" ["thing"] 1 spIsRow) (G_are_values : Has P w K mg base CX0 "are_values" ["thing", "many"] 3 spAreVals) :
    Has P w K mg base CX0 "check_rows" ["shape", "rows"] 4 (spCheck CS) := by
  refine D.has sc_check_rows (fun vs H Q E h => ?_) (fun f cdv A outer s H vs Q E hr h => ?_)
  · obtain ⟨ps, d, tbs, R, rfl, _⟩ := h; rfl
  · obtain ⟨ps, d, tbs, R, rfl, SA, g, DI, k⟩ := h
    have hu := hu_of hr
    refine ⟨_, (pss_cons (ps_if (pt_not (pt_val (pe_callB call_isi (by rfl) B.isinstance (by decide +kernel) (pa_cons (pv 1) (pa_cons (pe_bltn (v := .ty "dict") (by rfl) B.dict (by decide +kernel) rfl) pa_nil)))))
  (pss_one ps_never)
  pss_nil)
  (pss_cons (ps_setLc (i := 2) (own := [("name", 4), ("fields", 5)]) (g := gTup K 2 (gCons (gName 4) (gCons (gName 5) gNil))) (by rfl) sc_check_rows.nd rfl rfl (sw_true rfl rfl rfl (by decide +kernel)) (pi_tup (pe_fld (pv 0) rfl)) (blkOk_by (own := [("name", 4), ("fields", 5)]) (N := N_check_rows) (sc := defScope s_check_rows) (by decide +kernel)) (fun _ _ _ _ _ => (pg_tup rfl (pgs_cons (pg_name (i := 4) sc_check_rows.nd rfl (by first | exact Or.inl rfl | exact Or.inr rfl)) (pgs_cons (pg_name (i := 5) sc_check_rows.nd rfl (by first | exact Or.inl rfl | exact Or.inr rfl)) pgs_nil)))) (fun _ _ _ _ _ => pts_nil) (fun _ _ _ _ _ => (pv 4)))
  (pss_cons (ps_for PassesOwn.never rfl (pi_list (pe_callTy (call_listD rfl) (by rfl) B.list (by decide +kernel) (pa_cons (pv 1) pa_nil))) (pg_name (i := 3) sc_check_rows.nd rfl (by first | exact Or.inl rfl | exact Or.inr rfl))
  (pss_one (ps_if (PW.pt (pw_or (pt_not (pt_val (pe_callB call_isi (by rfl) B.isinstance (by decide +kernel) (pa_cons (pv 3) (pa_cons (pe_bltn (v := .ty "str") (by rfl) B.str (by decide +kernel) rfl) pa_nil))))) (pw_or1 (pt_cmpR op_notIn_seq (pv 3) (pv 2) (by rfl)))))
  (pss_one ps_never)
  pss_nil)))
  (pss_one (ps_for PassesOwn.never rfl (pi_tup (pe_fld (pv 0) rfl)) (pg_tup rfl (pgs_cons (pg_name (i := 4) sc_check_rows.nd rfl (by first | exact Or.inl rfl | exact Or.inr rfl)) (pgs_cons (pg_name (i := 5) sc_check_rows.nd rfl (by first | exact Or.inl rfl | exact Or.inr rfl)) pgs_nil)))
  (pss_one (ps_if (pt_cmp (pc_din hu (pv 4) (pv 1)) rfl)
  (pss_cons (ps_if (pt_not (pt_val (pe_has G_is_row (hr.mono (by omega)) (pa_cons (pe_dget hu (pv 1) (pv 4) (fun _ _ => rfl)) pa_nil))))
  (pss_one ps_never)
  pss_nil)
  (pss_one (ps_for PassesOwn.never rfl (pi_or (pi_enum (by rfl) B.enumerate (pa_cons (pe_dget hu (pv 1) (pv 4) (fun _ _ => rfl)) pa_nil)) (pi_enumT (by rfl) B.enumerate (pa_cons (pe_dget hu (pv 1) (pv 4) (fun _ _ => rfl)) pa_nil))) (pg_tup rfl (pgs_cons (pg_name (i := 6) sc_check_rows.nd rfl (by first | exact Or.inl rfl | exact Or.inr rfl)) (pgs_cons (pg_name (i := 7) sc_check_rows.nd rfl (by first | exact Or.inl rfl | exact Or.inr rfl)) pgs_nil)))
  (pss_one (ps_if (pt_not (pt_val (pe_has G_are_values (hr.mono (by omega)) (pa_cons (pv 7) (pa_cons (pe_callB call_len (by rfl) B.len PySem.boot_len (pa_cons (pv 5) pa_nil)) pa_nil)))))
  (pss_one ps_never)
  pss_nil)))))
  pss_nil))))))), ?_⟩
    obtain ⟨kvs, hd, lk, hkeys, hin⟩ := DI.ex
    obtain ⟨dx, ta, xs, hps, hta, ix⟩ := SA.rows
    have el : xs.length = tbs.length := by rw [ix.len, List.length_map]
    refine ⟨_, rfl, _, _, _, _, _, rfl, .ty _, .base (.dK hd), kit_ty rfl, _, rfl, iteF ?_⟩
    refine ⟨_, rfl, ps, CS, dx, _, .ref ta, rfl, hps, T.cl, T.nT, rfl, ta, rfl, ⟨_, .inl (.inl hta)⟩, fun D hD => ?_⟩
    refine lc_it (walk_tup (xs := xs)) (fun i H' => H' D = some (.lst (((tbs.take i).map (·.1)).map V.str)) ∧ Kp [] H H') ⟨upd_same, Kp.new hD⟩ (fun i H2 _ h => .inl (.inl (h.2.tp _ _ hta))) ?_ ?_
    · rintro i u H2 H3 hi ⟨h2, k2⟩ ⟨rfl, hu1⟩
      obtain ⟨a', b', t, rfl, ht, e1, e2⟩ := tab_at ix k2 hu1
      refine ⟨a', _, rfl, SqT.of e1, rfl, _, _, rfl, _, _, rfl, rfl, rfl, _, rfl, _, h2, ?_, ?_, k2.late hD⟩
      · rw [List.length_map, List.length_map, List.length_take]
        have := g.2.2.2
        show _ < 16777216
        omega
      · rw [take_snoc ht, List.map_append, List.map_append]; exact upd_same
    rintro H2 ⟨h2, k2⟩
    rw [el, List.take_length] at h2
    refine ⟨_, rfl, d, kvs, rfl, .inl (k2.at_ _ _ hd (fun z => nomatch z)), fun L hL => ⟨L, rfl, ⟨_, SqL.of upd_same⟩, ?_⟩⟩
    refine for_it (walk_list (xs := kvs.map fun kv => kV kv.1)) (fun i σ H' => (∃ o, σ = [some (.ref ps), some (.ref d), some (.ref D), o, none, none, none, none]) ∧ Kp [] (upd H2 L (.lst (kvs.map fun kv => kV kv.1))) H') ⟨⟨_, rfl⟩, Kp.refl _⟩ (fun i σ H' _ h => SqL.of (h.2.at_ _ _ upd_same (fun z => nomatch z))) ?_ ?_
    · rintro i u σ H3 H4 hi ⟨⟨o, rfl⟩, k3⟩ ⟨rfl, hu1⟩
      have k4 := (Kp.new (ms := []) hL).trans k3
      rw [List.getElem?_map] at hu1
      cases ek : kvs[i]? with
      | none => rw [ek] at hu1; cases hu1
      | some kv =>
        rw [ek] at hu1
        cases hu1
        obtain ⟨t, ht, e⟩ := hkeys kv (List.mem_of_getElem? ek)
        obtain ⟨k0, v0⟩ := kv
        obtain rfl : k0 = .inr t.1 := e
        refine ⟨_, rfl, _, _, _, _, _, rfl, .ty _, .base (.str t.1), kit_ty (kb_str (.str t.1)), _, rfl, iteF ?_⟩
        refine ⟨_, rfl, _, rfl, D, _, rfl, .inl (SqL.of (k4.at_ _ _ h2 (fun z => nomatch z))), rfl, flat_strs _, _, rfl, ?_⟩
        refine iteB (c := false) ?_ (iteF ⟨⟨_, rfl⟩, k3⟩)
        show (!inV (V.str t.1) ((tbs.map (·.1)).map V.str)) = false
        rw [inV_strs, decide_eq_true (List.mem_map.mpr ⟨t, ht, rfl⟩)]; rfl
    rintro σ H3 ⟨⟨o, rfl⟩, k3⟩
    have k3 := (k2.trans (Kp.new hL)).trans k3
    refine ⟨_, rfl, ps, CS, dx, _, .ref ta, rfl, k3.at_ _ _ hps (fun z => nomatch z), T.cl, T.nT, rfl, ta, rfl, ⟨_, .inl (.inl (k3.tp _ _ hta))⟩, ?_⟩
    refine for_it (walk_tup (xs := xs)) (fun i σ H' => (∃ o3 o4 o5 o6 o7, σ = [some (.ref ps), some (.ref d), some (.ref D), o3, o4, o5, o6, o7]) ∧ Kp [] H H') ⟨⟨_, _, _, _, _, rfl⟩, k3⟩ (fun i σ H' _ h => .inl (.inl (h.2.tp _ _ hta))) ?_ ?_
    · rintro i u σ H3 H4 hi ⟨⟨o3, o4, o5, o6, o7, rfl⟩, k3⟩ ⟨rfl, hu1⟩
      obtain ⟨a', b', t, rfl, ht, e1, e2⟩ := tab_at ix k3 hu1
      obtain ⟨r, hr1, hT⟩ := hin.get ht
      have hd3 := k3.at_ _ _ hd (fun z => nomatch z)
      refine ⟨a', _, rfl, SqT.of e1, rfl, _, _, rfl, _, _, rfl, rfl, ?_⟩
      refine ⟨_, rfl, _, rfl, d, _, rfl, .inl ⟨kvs, .inr t.1, .inl hd3, rfl, rfl⟩, _, rfl, ?_⟩
      rcases hT with ⟨v, hv, RV⟩ | ⟨hv, _⟩
      · rw [hv]
        refine iteT ?_
        obtain ⟨dd, es, dv, rr, VA⟩ := RV.keep k3
        have hdd : isRowD dd = true := by rcases rr with rfl | rfl <;> rfl
        refine ⟨_, rfl, _, rfl, d, v, rfl, .inl ⟨kvs, .inr t.1, .inl hd3, rfl, hv.symm⟩, _, false, 2, v, dd, rfl, dv, fun H4 k4 => ⟨_, rfl, ?_⟩⟩
        rw [hdd]
        refine iteF ?_
        have hd4 := k4.at_ _ _ hd3 (fun z => nomatch z)
        obtain ⟨es', m2, a2, ys, rfl, hm2, ry, ly, _, ay, hds⟩ := (dv.keep k4).row hdd
        have e' : es' = es := by
          rcases hds with ⟨rfl, _⟩ | ⟨rfl, _⟩ <;> rcases rr with e | e <;> cases e <;> rfl
        subst e'
        rcases hds with ⟨_, _, r2⟩ | ⟨_, _, r2⟩
        · refine .inl ⟨_, rfl, _, rfl, d, .ref a2, rfl, .inl ⟨kvs, .inr t.1, .inl hd4, rfl, hv.symm⟩, a2, ys, rfl, .inl r2, ?_⟩
          refine for_it (walk_enum (xs := ys)) (fun j σ H' => (∃ o6 o7, σ = [some (.ref ps), some (.ref d), some (.ref D), o3, some (.str t.1), some (.ref b'), o6, o7]) ∧ Kp [] H4 H') ⟨⟨_, _, rfl⟩, Kp.refl _⟩ (fun j σ H' _ h => .inl (h.2.rd (fun z => nomatch z) r2)) ?_ ?_
          · rintro j v' σ H6 H7 hj ⟨⟨o6, o7, rfl⟩, k6⟩ ⟨T, a1, y, rfl, hT, rfl, ea, ey⟩
            cases ea
            obtain ⟨e, he, dy⟩ := ay.getV ey
            obtain ⟨r1, hr1, hv1⟩ := VA.get he
            have k7 := k6.snoc (o := .tup [.int (j : Nat), y]) hT
            refine ⟨T, _, rfl, SqT.of upd_same, rfl, _, _, rfl, _, _, rfl, rfl, ?_⟩
            refine ⟨_, rfl, _, rfl, _, _, rfl, .inr ⟨_, .inl (.inl ((k4.trans k7).tp _ _ e2)), rfl⟩, _, false, m2, y, e, _, rfl, dy.keep k7, fun H8 k8 => ⟨_, rfl, ?_⟩⟩
            rw [List.length_map, bP_t ⟨r1, hv1⟩]
            exact iteF ⟨⟨_, _, rfl⟩, k7.trans k8⟩
          · rintro σ H6 ⟨⟨o6, o7, rfl⟩, k6⟩
            exact ⟨⟨_, _, _, _, _, rfl⟩, (k3.trans k4).trans k6⟩
        · refine .inr ⟨_, rfl, _, rfl, d, .ref a2, rfl, .inl ⟨kvs, .inr t.1, .inl hd4, rfl, hv.symm⟩, a2, ys, rfl, .inl (.inl r2), ?_⟩
          refine for_it (walk_enumT (xs := ys)) (fun j σ H' => (∃ o6 o7, σ = [some (.ref ps), some (.ref d), some (.ref D), o3, some (.str t.1), some (.ref b'), o6, o7]) ∧ Kp [] H4 H') ⟨⟨_, _, rfl⟩, Kp.refl _⟩ (fun j σ H' _ h => .inl (.inl (h.2.tp _ _ r2))) ?_ ?_
          · rintro j v' σ H6 H7 hj ⟨⟨o6, o7, rfl⟩, k6⟩ ⟨T, a1, y, rfl, hT, rfl, ea, ey⟩
            cases ea
            obtain ⟨e, he, dy⟩ := ay.getV ey
            obtain ⟨r1, hr1, hv1⟩ := VA.get he
            have k7 := k6.snoc (o := .tup [.int (j : Nat), y]) hT
            refine ⟨T, _, rfl, SqT.of upd_same, rfl, _, _, rfl, _, _, rfl, rfl, ?_⟩
            refine ⟨_, rfl, _, rfl, _, _, rfl, .inr ⟨_, .inl (.inl ((k4.trans k7).tp _ _ e2)), rfl⟩, _, false, m2, y, e, _, rfl, dy.keep k7, fun H8 k8 => ⟨_, rfl, ?_⟩⟩
            rw [List.length_map, bP_t ⟨r1, hv1⟩]
            exact iteF ⟨⟨_, _, rfl⟩, k7.trans k8⟩
          · rintro σ H6 ⟨⟨o6, o7, rfl⟩, k6⟩
            exact ⟨⟨_, _, _, _, _, rfl⟩, (k3.trans k4).trans k6⟩
      · rw [hv]
        exact iteF ⟨⟨_, _, _, _, _, rfl⟩, k3⟩
    · rintro σ H3 ⟨⟨o3, o4, o5, o6, o7, rfl⟩, k3⟩
      exact k _ k3
end
end Fm

namespace Fm
open PySem PySem.Spec PyProof.Rows L2
def rTupO (K : PySem.W.Frag) : List V → Hp → VK → Prop := fun xs H Q => ∃ p ys, xs = [.ref p] ∧ ((SqL K H p ys ∧ ∀ l, H l = none → Q (.ref l) (upd H l (.tup ys))) ∨ (SqT K H p ys ∧ Q (.ref p) H))
theorem tupO_in {K : PySem.W.Frag} {H : Hp} {f : Addr} {ys : List V} {Q : VK} (h : RwAt H f ys) (q : ∀ l H', Kp [] H H' → H' l = some (.tup ys) → Q (.ref l) H') : rTupO K [V.ref f] H Q := by
  rcases h with h | h
  · exact ⟨f, ys, rfl, .inl ⟨.inl h, fun l hl => q l _ (Kp.new hl) upd_same⟩⟩
  · exact ⟨f, ys, rfl, .inr ⟨.inl (.inl h), q f H (Kp.refl _) h⟩⟩
theorem dtAll_ints {S : Addr → Prop} {q : Bool} {H : Hp} {n : Nat} : ∀ ws : List Int, DtAll S q H n (ws.map V.int) (ws.map PyData.int)
  | [] => .nil
  | w :: ws => .cons (.int w) (dtAll_ints ws)
theorem row_v {S : Addr → Prop} {q : Bool} {H : Hp} {n m : Nat} {y : V} {e : PyData} {ns : List Int} (h : Dt S q H n y e) (hv : ValsD m e ns) : ∃ c, y = .ref c ∧ RwAt H c (ns.map V.int) := by
  rcases hv.1 with rfl | rfl
  · cases h with
    | lst r l a => exact ⟨_, rfl, .inl (by rw [← a.ints]; exact r)⟩
  · cases h with
    | tup r l a => exact ⟨_, rfl, .inr (by rw [← a.ints]; exact r)⟩
theorem KvAt.kp {ms : List Addr} {H H' : Hp} (k : Kp ms H H') : ∀ {kvs : List (Key × V)} {ts : List (Str × List Str)} {R : List (List (List Int))}, KvAt H kvs ts R → KvAt H' kvs ts R
  | _, _, _, .nil => .nil
  | _, _, _, .cons a b => .cons (Im.kp k a) (b.kp k)
theorem KvAt.keys {H : Hp} : ∀ {kvs : List (Key × V)} {ts : List (Str × List Str)} {R : List (List (List Int))}, KvAt H kvs ts R → kvs.map (·.1) = ts.map fun t => Sum.inr t.1
  | _, _, _, .nil => rfl
  | _, _, _, .cons a b => by rw [List.map_cons, List.map_cons, b.keys]
theorem KvAt.snoc {H : Hp} {v : V} {t : Str × List Str} {r : List (List Int)} (hv : Im H 2 v (dRows r)) : ∀ {kvs : List (Key × V)} {ts : List (Str × List Str)} {R : List (List (List Int))}, KvAt H kvs ts R → KvAt H (kvs ++ [(.inr t.1, v)]) (ts ++ [t]) (R ++ [r])
  | _, _, _, .nil => .cons hv .nil
  | _, _, _, .cons a b => .cons a (b.snoc hv)
def total (R : List (List (List Int))) : Nat := (R.map List.length).sum
theorem total_snoc {R : List (List (List Int))} {i : Nat} {r : List (List Int)} (h : R[i]? = some r) : total (R.take (i + 1)) = total (R.take i) + r.length := by
  unfold total
  rw [take_snoc h, List.map_append, List.sum_append]; simp
theorem inr_map (ts : List (Str × List Str)) : (ts.map fun t => (Sum.inr t.1 : Key)) = (ts.map (·.1)).map Sum.inr := by rw [List.map_map]; rfl
theorem inr_nd {ts : List (Str × List Str)} (h : (ts.map (·.1)).Nodup) : (ts.map fun t => (Sum.inr t.1 : Key)).Nodup := by
  rw [inr_map]
  exact List.Pairwise.map _ (fun a b n e => n (Sum.inr.inj e)) h
/-- what the top has of the class Store -/
structure StCls (K : PySem.W.Frag) (mg : Str → Option Value) (C : Addr) : Prop where
  cl : Cls K C
  nS : NoAttr K C "shape"
  nK : NoAttr K C "kept"
  mgC : mg "Store" = some (.ref C)
def StAt (C CS : Addr) (H : Hp) (p ps : Addr) (tbs : List (Str × List Str)) (R : List (List (List Int))) : Prop :=
  ∃ dx kd kvs, H p = some (.ins C dx [("shape", .ref ps), ("kept", .ref kd)]) ∧ ShapeAt CS H ps tbs ∧ H kd = some (.dK kvs) ∧ KvAt H kvs tbs R
/-- Store.__init__, its dict being new -/
def spStoreN (C CS : Addr) : Sp := fun vs H Q _ => ∃ (p dx ps d : Addr) (tbs : List (Str × List Str)) (R : List (List (List Int))), vs = [.ref p, .ref ps, .ref d] ∧ H p = some (.ins C dx []) ∧ ShapeAt CS H ps tbs ∧ GoodTs tbs ∧ DictIn H d tbs R ∧ total R ≤ 300 ∧
  ∀ H' kd, Kp [p] H H' → StAt C CS H' p ps tbs R → H' p = some (.ins C dx [("shape", .ref ps), ("kept", .ref kd)]) → H kd = none → Q .non H'
def spStoreI (C CS : Addr) : Sp := fun vs H Q _ => ∃ (p dx ps d : Addr) (tbs : List (Str × List Str)) (R : List (List (List Int))), vs = [.ref p, .ref ps, .ref d] ∧ H p = some (.ins C dx []) ∧ ShapeAt CS H ps tbs ∧ GoodTs tbs ∧ DictIn H d tbs R ∧ total R ≤ 300 ∧
  ∀ H', Kp [p] H H' → StAt C CS H' p ps tbs R → Q .non H'
section
variable {P : Program} {w : World} {K : PySem.W.Frag} {mg : Str → Option Value} {base : Heap}
theorem ok_store_initN {f C CS : Addr} {fd : FuncData} {tk : Tok} (B : Bi mg) (F : Fun K "__init__" "Store.__init__" s_Store_init f fd) (T : ShCls K mg CS) (X : InsX K CS) (U : StCls K mg C) (M : mg "MOST_ROWS" = some (.int 300 tk)) (G_check_rows : Has P w K mg base CX0 "check_rows" ["shape", "rows"] 4 (spCheck CS)) :
    FnOk P w K mg base CX0 5 f fd ["self", "shape", "rows"] (spStoreN C CS) := by
  refine F.ok sc_Store_init (fun vs H Q E h => ?_) (fun cdv A outer s H vs Q E hr h => ?_)
  · obtain ⟨p, dx, ps, d, tbs, R, rfl, _⟩ := h; rfl
  · obtain ⟨p, dx, ps, d, tbs, R, rfl, hp, SA, g, DI, tot, k⟩ := h
    have hu := hu_of hr
    refine ⟨_, (pss_cons (ps_if (pt_not (pt_val (pe_callB call_isi (by rfl) B.isinstance (by decide +kernel) (pa_cons (pv 1) (pa_cons (pe_glob (v := .ref CS) rfl T.mgC rfl) pa_nil)))))
  (pss_one ps_never)
  pss_nil)
  (pss_cons (ps_expr (pe_has G_check_rows (hr.mono (by omega)) (pa_cons (pv 1) (pa_cons (pv 2) pa_nil))))
  (pss_cons (ps_set (i := 3) sc_Store_init.nd rfl (by first | exact Or.inl rfl | exact Or.inr rfl) pe_int)
  (pss_cons (ps_set (i := 4) sc_Store_init.nd rfl (by first | exact Or.inl rfl | exact Or.inr rfl) pe_dnewK)
  (pss_cons (ps_for PassesOwn.never rfl (pi_tup (pe_fld (pv 1) rfl)) (pg_tup rfl (pgs_cons (pg_name (i := 5) sc_Store_init.nd rfl (by first | exact Or.inl rfl | exact Or.inr rfl)) (pgs_cons (pg_name (i := 6) sc_Store_init.nd rfl (by first | exact Or.inl rfl | exact Or.inr rfl)) pgs_nil)))
  (pss_cons (ps_dput hu (pv 4) (pv 5) (pe_callTy call_tuple_of (by rfl) B.tuple (by decide +kernel) (pa_cons (pe_lc (own := [("row", 7)]) (g := gName 7) (by rfl) sc_Store_init.nd (pi_or (pi_list (pe_dget2 hu (pv 2) (pv 5) (pe_tup pa_nil) ⟨rfl, rfl, rfl, rfl⟩)) (pi_tup (pe_dget2 hu (pv 2) (pv 5) (pe_tup pa_nil) ⟨rfl, rfl, rfl, rfl⟩))) (blkOk_by (own := [("row", 7)]) (N := N_Store_init) (sc := defScope s_Store_init) (by decide +kernel)) (fun _ _ _ _ _ => (pg_name (i := 7) sc_Store_init.nd rfl (by first | exact Or.inl rfl | exact Or.inr rfl))) (fun _ _ _ _ _ => pts_nil) (fun _ _ _ _ _ => (pe_callTy (r := rTupO K) call_tuple_of (by rfl) B.tuple (by decide +kernel) (pa_cons (pv 7) pa_nil)))) pa_nil)) rfl)
  (pss_one (ps_aug (i := 3) sc_Store_init.nd rfl (by first | exact Or.inl rfl | exact Or.inr rfl) (pe_callB call_len (by rfl) B.len PySem.boot_len (pa_cons (pe_dget hu (pv 4) (pv 5) (fun _ _ => rfl)) pa_nil)) ip_add))))
  (pss_cons (ps_if (pt_cmpR op_gt (pv 3) (pe_glob (v := .int 300) rfl M ⟨_, rfl⟩) (nomark _))
  (pss_one ps_never)
  pss_nil)
  (pss_cons (ps_fld (pv 0) (pv 1) rfl)
  (pss_one (ps_fld (pv 0) (pv 4) rfl))))))))), ?_⟩
    obtain ⟨kvs, hd, lk, hkeys, hin⟩ := id DI.ex
    obtain ⟨sx, ta, xs, hps, hta, ix⟩ := SA.rows
    have el : xs.length = tbs.length := by rw [ix.len, List.length_map]
    have elR : tbs.length = R.length := hin.len
    have g5 := g.2.2.2
    refine ⟨_, rfl, _, _, _, _, _, rfl, .own CS, X.ty hps, kit_self, _, rfl, iteF ?_⟩
    refine ⟨_, rfl, _, rfl, ps, d, tbs, R, rfl, SA, g, DI, fun H1 k1 => ?_⟩
    intro D hD
    have k2 : Kp [] H (upd H1 D (.dK [])) := k1.snoc hD
    refine ⟨_, rfl, ps, CS, sx, _, .ref ta, rfl, k2.at_ _ _ hps (fun z => nomatch z), T.cl, T.nT, rfl, ta, rfl, ⟨_, .inl (.inl (k2.tp _ _ hta))⟩, ?_⟩
    refine for_it (walk_tup (xs := xs)) (fun i σ H' => (∃ o5 o6, σ = [some (.ref p), some (.ref ps), some (.ref d), some (.int (total (R.take i) : Nat)), some (.ref D), o5, o6, none]) ∧ Kp [] H H' ∧ ∃ kw, H' D = some (.dK kw) ∧ KvAt H' kw (tbs.take i) (R.take i)) ⟨⟨none, none, rfl⟩, k2, [], upd_same, .nil⟩ (fun i σ H' _ h => .inl (.inl (h.2.1.tp _ _ hta))) ?_ ?_
    · rintro i u σ H2 H3 hi ⟨⟨o5, o6, rfl⟩, k3, kw, hkw, KV1⟩ ⟨rfl, hu1⟩
      obtain ⟨a', b', t, rfl, ht, e1, e2⟩ := tab_at ix k3 hu1
      obtain ⟨r, hr1, hT⟩ := hin.get ht
      have hd3 := k3.at_ _ _ hd (fun z => nomatch z)
      have hDH : H D = none := k1.same.free hD
      refine ⟨a', _, rfl, SqT.of e1, rfl, _, _, rfl, _, _, rfl, rfl, ?_⟩
      have nk : valV kw (.inr t.1) = none := by
        refine valV_out ?_
        rw [KV1.keys, inr_map, List.map_take]
        intro hm
        obtain ⟨x, hx, ex⟩ := List.mem_map.mp hm
        cases ex
        exact notin_take g.2.1 (by rw [List.getElem?_map, ht]; rfl) hx
      have lkw : kw.length ≤ 5 := by
        have := congrArg List.length KV1.keys
        rw [List.length_map, List.length_map, List.length_take] at this
        omega
      have rlen : r.length ≤ 1000000 := by
        have h1 : total (R.take (i + 1)) ≤ total R := by
          unfold total
          have := congrArg (fun l => (l.map List.length).sum) (List.take_append_drop (i + 1) R)
          simp only [List.map_append, List.sum_append] at this
          omega
        have := total_snoc hr1
        omega
      rcases hT with ⟨v, hv, RV⟩ | ⟨hv, rfl⟩
      · obtain ⟨dd, es, dv, rr, VA⟩ := RV.keep k3
        have hdd : isRowD dd = true := by rcases rr with rfl | rfl <;> rfl
        obtain ⟨es', m2, a2, ys, rfl, hm2, ry, ly, _, ay, hds⟩ := dv.row hdd
        have e' : es' = es := by
          rcases hds with ⟨rfl, _⟩ | ⟨rfl, _⟩ <;> rcases rr with e | e <;> cases e <;> rfl
        subst e'
        rcases hds with ⟨_, _, r2⟩ | ⟨_, _, r2⟩
        · skip
          refine .inl ⟨_, rfl, d, rfl, .inl ⟨_, .inl hd3⟩, _, rfl, by show 0 ≤ sizeLine; decide, fun z hz => ⟨_, .inl ⟨kvs, .inr t.1, .inl (by rw [upd_ne (ne_of_none hd3 hz)]; exact hd3), rfl, hv.symm⟩, a2, rfl, ⟨_, .inl ((Kp.new (ms := []) hz).rd (fun z => nomatch z) r2)⟩, fun D2 hD2 => ?_⟩⟩
          refine lc_it (walk_list (xs := ys)) (fun j H' => ∃ zs, H' D2 = some (.lst zs) ∧ ImAll H' 1 zs ((r.take j).map dRow) ∧ zs.length = j ∧ Kp [] (upd H3 z (.tup [])) H') ⟨[], upd_same, .nil, rfl, Kp.new hD2⟩ (fun j H' _ ⟨_, _, _, _, k4⟩ => .inl (((Kp.new hz).trans k4).rd (fun z => nomatch z) r2)) (fun j u H4 H5 hj h4 hy => ?_) (fun H4 h4 => ?_)
          · obtain ⟨zs, h4, i4, l4, k4⟩ := h4
            obtain ⟨rfl, hu2⟩ := hy
            obtain ⟨e, he, dy⟩ := ay.getV hu2
            obtain ⟨r1, hr1, hv1⟩ := VA.get he
            obtain ⟨c1, rfl, rc⟩ := row_v (dy.keep ((Kp.new hz).trans k4)) hv1
            refine ⟨rfl, _, rfl, ?_⟩
            dsimp only [tNil]
            refine tupO_in rc fun l H6 k6 h6 => ?_
            have h46 := k6.at_ _ _ h4 (fun z => nomatch z)
            refine ⟨zs, h46, by rw [l4]; exact Nat.lt_of_lt_of_le hj (Nat.le_trans ly (by decide)), zs ++ [.ref l], upd_same, ?_, by simp [l4], (k4.trans k6).late hD2⟩
            rw [take_snoc hr1, List.map_append]
            have kD : Kp [D2] H6 (upd H6 D2 (.lst (zs ++ [.ref l]))) := Kp.updL h46 (by simp)
            have h7 := kD.tp _ _ h6
            refine (ImAll.kp (ms := [D2]) (k6.zero.trans kD) i4).append (.cons (.tup h7 ⟨?_, ⟨_, h7⟩⟩ (dtAll_ints r1)) .nil)
            rw [List.length_map, hv1.2.1]; have := (g.1 t (List.mem_of_getElem? ht)).2.2.2.2; omega
          · obtain ⟨zs, h4, i4, l4, k4⟩ := h4
            rw [ay.len, VA.len, List.take_length] at i4
            refine ⟨D2, zs, rfl, .inl ⟨SqL.of h4, fun l hl => ?_⟩⟩
            have lz : zs.length = r.length := by rw [l4, ay.len, VA.len]
            have kq := ((Kp.new hz).trans k4).snoc (o := .tup zs) hl
            have hD5 := kq.at_ _ _ hkw (fun z => nomatch z)
            refine ⟨_, rfl, _, rfl, D, _, rfl, .inl ⟨kw, .inr t.1, hD5, rfl, by show _ < 16777216; omega, rfl⟩, ?_⟩
            rw [putK_new _ nk]
            have ke : (kw ++ [((.inr t.1 : Key), V.ref l)]).map (·.1) = (tbs.take (i + 1)).map fun t => Sum.inr t.1 := by rw [List.map_append, KV1.keys, take_snoc ht, List.map_append]; rfl
            have nd : ((kw ++ [((.inr t.1 : Key), V.ref l)]).map (·.1)).Nodup := by rw [ke]; exact inr_nd (by rw [List.map_take]; exact g.2.1.sublist (List.take_sublist _ _))
            have vl := valV_at nd (i := kw.length) (k := .inr t.1) (v := .ref l) (by simp)
            have kD : Kp [D] (upd H4 l (.tup zs)) (upd (upd H4 l (.tup zs)) D (.dK (kw ++ [(.inr t.1, .ref l)]))) := Kp.set hD5 (fun _ z => by cases z) (by simp)
            have hl7 := kD.tp _ _ (upd_same (H := H4) (a := l))
            refine ⟨_, rfl, _, rfl, _, rfl, D, .ref l, rfl, .inl ⟨_, .inr t.1, .inl upd_same, rfl, vl.symm⟩, _, _, rfl, .inr ⟨zs, .inl (.inl hl7), rfl⟩, _, _, rfl, rfl, ?_⟩
            refine ⟨⟨some (.str t.1), some (.ref b'), ?_⟩, (k3.trans kq).late hDH, _, upd_same, ?_⟩
            · rw [show ((total (R.take (i + 1)) : Nat) : Int) = ((total (R.take i) : Nat) : Int) + ((zs.length : Nat) : Int) by rw [total_snoc hr1, lz, Int.natCast_add]]; rfl
            · rw [take_snoc ht, take_snoc hr1]
              have i7 := ImAll.kp kD (ImAll.kp (ms := []) (Kp.new hl) i4)
              exact (KV1.kp (ms := [D]) (kq.zero.trans kD)).snoc (.tup hl7 ⟨by rw [lz]; exact rlen, ⟨_, hl7⟩⟩ i7)
        · skip
          refine .inr ⟨_, rfl, d, rfl, .inl ⟨_, .inl hd3⟩, _, rfl, by show 0 ≤ sizeLine; decide, fun z hz => ⟨_, .inl ⟨kvs, .inr t.1, .inl (by rw [upd_ne (ne_of_none hd3 hz)]; exact hd3), rfl, hv.symm⟩, a2, rfl, ⟨_, .inl (.inl ((Kp.new (ms := []) hz).tp _ _ r2))⟩, fun D2 hD2 => ?_⟩⟩
          refine lc_it (walk_tup (xs := ys)) (fun j H' => ∃ zs, H' D2 = some (.lst zs) ∧ ImAll H' 1 zs ((r.take j).map dRow) ∧ zs.length = j ∧ Kp [] (upd H3 z (.tup [])) H') ⟨[], upd_same, .nil, rfl, Kp.new hD2⟩ (fun j H' _ ⟨_, _, _, _, k4⟩ => .inl (.inl (((Kp.new hz).trans k4).tp _ _ r2))) (fun j u H4 H5 hj h4 hy => ?_) (fun H4 h4 => ?_)
          · obtain ⟨zs, h4, i4, l4, k4⟩ := h4
            obtain ⟨rfl, hu2⟩ := hy
            obtain ⟨e, he, dy⟩ := ay.getV hu2
            obtain ⟨r1, hr1, hv1⟩ := VA.get he
            obtain ⟨c1, rfl, rc⟩ := row_v (dy.keep ((Kp.new hz).trans k4)) hv1
            refine ⟨rfl, _, rfl, ?_⟩
            dsimp only [tNil]
            refine tupO_in rc fun l H6 k6 h6 => ?_
            have h46 := k6.at_ _ _ h4 (fun z => nomatch z)
            refine ⟨zs, h46, by rw [l4]; exact Nat.lt_of_lt_of_le hj (Nat.le_trans ly (by decide)), zs ++ [.ref l], upd_same, ?_, by simp [l4], (k4.trans k6).late hD2⟩
            rw [take_snoc hr1, List.map_append]
            have kD : Kp [D2] H6 (upd H6 D2 (.lst (zs ++ [.ref l]))) := Kp.updL h46 (by simp)
            have h7 := kD.tp _ _ h6
            refine (ImAll.kp (ms := [D2]) (k6.zero.trans kD) i4).append (.cons (.tup h7 ⟨?_, ⟨_, h7⟩⟩ (dtAll_ints r1)) .nil)
            rw [List.length_map, hv1.2.1]; have := (g.1 t (List.mem_of_getElem? ht)).2.2.2.2; omega
          · obtain ⟨zs, h4, i4, l4, k4⟩ := h4
            rw [ay.len, VA.len, List.take_length] at i4
            refine ⟨D2, zs, rfl, .inl ⟨SqL.of h4, fun l hl => ?_⟩⟩
            have lz : zs.length = r.length := by rw [l4, ay.len, VA.len]
            have kq := ((Kp.new hz).trans k4).snoc (o := .tup zs) hl
            have hD5 := kq.at_ _ _ hkw (fun z => nomatch z)
            refine ⟨_, rfl, _, rfl, D, _, rfl, .inl ⟨kw, .inr t.1, hD5, rfl, by show _ < 16777216; omega, rfl⟩, ?_⟩
            rw [putK_new _ nk]
            have ke : (kw ++ [((.inr t.1 : Key), V.ref l)]).map (·.1) = (tbs.take (i + 1)).map fun t => Sum.inr t.1 := by rw [List.map_append, KV1.keys, take_snoc ht, List.map_append]; rfl
            have nd : ((kw ++ [((.inr t.1 : Key), V.ref l)]).map (·.1)).Nodup := by rw [ke]; exact inr_nd (by rw [List.map_take]; exact g.2.1.sublist (List.take_sublist _ _))
            have vl := valV_at nd (i := kw.length) (k := .inr t.1) (v := .ref l) (by simp)
            have kD : Kp [D] (upd H4 l (.tup zs)) (upd (upd H4 l (.tup zs)) D (.dK (kw ++ [(.inr t.1, .ref l)]))) := Kp.set hD5 (fun _ z => by cases z) (by simp)
            have hl7 := kD.tp _ _ (upd_same (H := H4) (a := l))
            refine ⟨_, rfl, _, rfl, _, rfl, D, .ref l, rfl, .inl ⟨_, .inr t.1, .inl upd_same, rfl, vl.symm⟩, _, _, rfl, .inr ⟨zs, .inl (.inl hl7), rfl⟩, _, _, rfl, rfl, ?_⟩
            refine ⟨⟨some (.str t.1), some (.ref b'), ?_⟩, (k3.trans kq).late hDH, _, upd_same, ?_⟩
            · rw [show ((total (R.take (i + 1)) : Nat) : Int) = ((total (R.take i) : Nat) : Int) + ((zs.length : Nat) : Int) by rw [total_snoc hr1, lz, Int.natCast_add]]; rfl
            · rw [take_snoc ht, take_snoc hr1]
              have i7 := ImAll.kp kD (ImAll.kp (ms := []) (Kp.new hl) i4)
              exact (KV1.kp (ms := [D]) (kq.zero.trans kD)).snoc (.tup hl7 ⟨by rw [lz]; exact rlen, ⟨_, hl7⟩⟩ i7)
      · obtain ⟨r, hrr⟩ : ∃ r : List (List Int), r = [] := ⟨_, rfl⟩
        refine .inr ⟨_, rfl, d, rfl, .inl ⟨_, .inl hd3⟩, _, rfl, by show 0 ≤ sizeLine; decide, fun z hz => ⟨_, .inl ⟨kvs, .inr t.1, .inl (by rw [upd_ne (ne_of_none hd3 hz)]; exact hd3), rfl, hv.symm⟩, z, rfl, ⟨_, .inl (.inl upd_same)⟩, fun D2 hD2 => ?_⟩⟩
        refine lc_it (walk_tup (xs := [])) (fun j H' => H' D2 = some (.lst []) ∧ Kp [] (upd H3 z (.tup [])) H') ⟨upd_same, Kp.new hD2⟩ (fun j H' _ ⟨_, k4⟩ => .inl (.inl (k4.tp _ _ upd_same))) (fun j u H4 H5 hj h4 hy => absurd hj (Nat.not_lt_zero _)) (fun H4 h4 => ?_)
        obtain ⟨h4, k4⟩ := h4
        obtain ⟨zs, hzs⟩ : ∃ zs : List V, zs = [] := ⟨_, rfl⟩
        rw [← hzs] at h4
        have i4 : ImAll H4 1 zs (([] : List (List Int)).map dRow) := by rw [hzs]; exact .nil
        refine ⟨D2, zs, rfl, .inl ⟨SqL.of h4, fun l hl => ?_⟩⟩
        have lz : zs.length = ([] : List (List Int)).length := by rw [hzs]; rfl
        have kq := ((Kp.new hz).trans k4).snoc (o := .tup zs) hl
        have hD5 := kq.at_ _ _ hkw (fun z => nomatch z)
        refine ⟨_, rfl, _, rfl, D, _, rfl, .inl ⟨kw, .inr t.1, hD5, rfl, by show _ < 16777216; omega, rfl⟩, ?_⟩
        rw [putK_new _ nk]
        have ke : (kw ++ [((.inr t.1 : Key), V.ref l)]).map (·.1) = (tbs.take (i + 1)).map fun t => Sum.inr t.1 := by rw [List.map_append, KV1.keys, take_snoc ht, List.map_append]; rfl
        have nd : ((kw ++ [((.inr t.1 : Key), V.ref l)]).map (·.1)).Nodup := by rw [ke]; exact inr_nd (by rw [List.map_take]; exact g.2.1.sublist (List.take_sublist _ _))
        have vl := valV_at nd (i := kw.length) (k := .inr t.1) (v := .ref l) (by simp)
        have kD : Kp [D] (upd H4 l (.tup zs)) (upd (upd H4 l (.tup zs)) D (.dK (kw ++ [(.inr t.1, .ref l)]))) := Kp.set hD5 (fun _ z => by cases z) (by simp)
        have hl7 := kD.tp _ _ (upd_same (H := H4) (a := l))
        refine ⟨_, rfl, _, rfl, _, rfl, D, .ref l, rfl, .inl ⟨_, .inr t.1, .inl upd_same, rfl, vl.symm⟩, _, _, rfl, .inr ⟨zs, .inl (.inl hl7), rfl⟩, _, _, rfl, rfl, ?_⟩
        refine ⟨⟨some (.str t.1), some (.ref b'), ?_⟩, (k3.trans kq).late hDH, _, upd_same, ?_⟩
        · rw [show ((total (R.take (i + 1)) : Nat) : Int) = ((total (R.take i) : Nat) : Int) + ((zs.length : Nat) : Int) by rw [total_snoc hr1, lz, Int.natCast_add]]; rfl
        · rw [take_snoc ht, take_snoc hr1]
          have i7 := ImAll.kp kD (ImAll.kp (ms := []) (Kp.new hl) i4)
          exact (KV1.kp (ms := [D]) (kq.zero.trans kD)).snoc (.tup hl7 ⟨by rw [lz]; exact rlen, ⟨_, hl7⟩⟩ i7)
    · rintro σ H3 ⟨⟨o5, o6, rfl⟩, k3, kw, hkw, KV1⟩
      rw [el, List.take_length] at KV1
      rw [elR, List.take_length] at KV1
      refine ⟨_, rfl, _, _, rfl, rfl, _, rfl, ?_⟩
      rw [el, elR, List.take_length]
      rw [decide_eq_false (show ¬ ((300 : Int) < ((total R : Nat) : Int)) by omega)]
      refine iteF ?_
      have hp3 := k3.at_ _ _ hp (fun z => nomatch z)
      refine ⟨_, rfl, _, rfl, p, C, dx, [], rfl, hp3, U.cl, U.nS, by show 0 < 1000; decide, ?_⟩
      refine ⟨_, rfl, _, rfl, p, C, dx, _, rfl, upd_same, U.cl, U.nK, by show 1 < 1000; decide, ?_⟩
      have kp1 : Kp [p] H3 (upd (upd H3 p (.ins C dx (putF "shape" (.ref ps) []))) p (.ins C dx (putF "kept" (.ref D) (putF "shape" (.ref ps) [])))) := (Kp.set hp3 (fun _ z => by cases z) (by simp)).trans (Kp.set upd_same (fun _ z => by cases z) (by simp))
      have hpsp : ps ≠ p := fun z => by rw [z, hp] at hps; cases hps
      have hDp : D ≠ p := fun z => by rw [z, hp3] at hkw; cases hkw
      exact k _ D (k3.zero.trans kp1) ⟨dx, D, kw, upd_same, (SA.kp (ms := [p]) (k3.zero.trans kp1) (by simpa using hpsp)), kp1.at_ _ _ hkw (by simpa using hDp), KV1.kp kp1⟩ upd_same (k1.same.free hD)
theorem ok_store_init {f C CS : Addr} {fd : FuncData} {tk : Tok} (B : Bi mg) (F : Fun K "__init__" "Store.__init__" s_Store_init f fd) (T : ShCls K mg CS) (X : InsX K CS) (U : StCls K mg C) (M : mg "MOST_ROWS" = some (.int 300 tk)) (G_check_rows : Has P w K mg base CX0 "check_rows" ["shape", "rows"] 4 (spCheck CS)) :
    FnOk P w K mg base CX0 5 f fd ["self", "shape", "rows"] (spStoreI C CS) :=
  (ok_store_initN B F T X U M G_check_rows).imp fun vs H Q E ⟨p, dx, ps, d, tbs, R, h1, h2, h3, h4, h5, h6, k⟩ => ⟨p, dx, ps, d, tbs, R, h1, h2, h3, h4, h5, h6, fun H' _ a b _ _ => k H' a b⟩
end
end Fm

namespace Fm
open PySem PySem.Spec PyProof.Rows L2
theorem Kp.via {ms ms' : List Addr} {H H1 H2 : Hp} (k1 : Kp ms H H1) (k2 : Kp ms' H1 H2) (h : ∀ x ∈ ms', x ∈ ms ∨ H x = none) : Kp ms H H2 := by
  refine ⟨fun a o e n => k2.at_ a o (k1.at_ a o e n) fun z => ?_, fun a xs e => k2.tp a xs (k1.tp a xs e)⟩
  rcases h a z with h | h
  · exact n h
  · rw [h] at e
    cases e
theorem Bag.new {H : Hp} {b c p : Addr} (B : Bag H b c) (h : H p = none) : p ≠ b ∧ p ≠ c := by
  obtain ⟨o, ho⟩ := B.someB
  obtain ⟨o', ho'⟩ := B.someC
  refine ⟨fun z => ?_, fun z => ?_⟩
  · rw [← z, h] at ho
    cases ho
  · rw [← z, h] at ho'
    cases ho'
def spTables : Sp := fun vs H Q _ => ∃ (b c : Addr), vs = [.ref b] ∧ Bag H b c ∧ ∀ (t : Addr) (xs : List V) (tbs : List (Str × List Str)) (H' : Hp), Bag H' b c → Kp [b] H H' → H t = none → H' t = some (.lst xs) → ImAll H' 2 xs (tbs.map dTab) → GoodTs tbs → Q (.ref t) H'
theorem five : ∀ n : Nat, n < 5 → ∃ k : Nat, ([V.int 2, V.int 1, V.int 2, V.int 3, V.int 5] : List V)[n]? = some (.int k) ∧ 1 ≤ k ∧ k ≤ 5
  | 0, _ => ⟨2, rfl, by decide, by decide⟩
  | 1, _ => ⟨1, rfl, by decide, by decide⟩
  | 2, _ => ⟨2, rfl, by decide, by decide⟩
  | 3, _ => ⟨3, rfl, by decide, by decide⟩
  | 4, _ => ⟨5, rfl, by decide, by decide⟩
  | n + 5, h => absurd h (by omega)
section
variable {P : Program} {w : World} {K : PySem.W.Frag} {mg : Str → Option Value} {base : Heap}
theorem ok_tables (B : Bi mg) (D : Dfn K mg "_law_tables" s__law_tables ["_law_bag_here"]) (G_pick : Has P w K mg base CX0 "_law_pick" ["_law_bag_here", "_law_many"] 1 spPick) (G_name : Has P w K mg base CX0 "_law_name" ["_law_bag_here", "_law_taken"] 2 spName) :
    Has P w K mg base CX0 "_law_tables" ["_law_bag_here"] 3 spTables := by
  refine D.has sc__law_tables (fun vs H Q E h => ?_) (fun f cdv A outer s H vs Q E hr h => ?_)
  · obtain ⟨b, c, rfl, _⟩ := h; rfl
  · obtain ⟨b, c, rfl, BG, k⟩ := h
    have hr1 : Room 1 _ := hr.mono (by decide)
    refine ⟨_, (pss_cons (ps_set (i := 1) sc__law_tables.nd rfl (by first | exact Or.inl rfl | exact Or.inr rfl) (pe_lst pa_nil))
  (pss_cons (ps_set (i := 2) sc__law_tables.nd rfl (by first | exact Or.inl rfl | exact Or.inr rfl) (pe_lst pa_nil))
  (pss_cons (ps_for PassesOwn.never rfl (pi_range1 rfl B.range (pa_cons (pe_ix ix_list (pe_lst (pa_cons pe_int (pa_cons pe_int (pa_cons pe_int (pa_cons pe_int (pa_cons pe_int pa_nil)))))) (pe_has G_pick hr1 (pa_cons (pv 0) (pa_cons pe_int pa_nil))) (fun _ _ => rfl)) pa_nil)) (pg_name (i := 3) sc__law_tables.nd rfl (by first | exact Or.inl rfl | exact Or.inr rfl))
  (pss_cons (ps_set (i := 4) sc__law_tables.nd rfl (by first | exact Or.inl rfl | exact Or.inr rfl) (pe_has G_name hr (pa_cons (pv 0) (pa_cons (pv 1) pa_nil))))
  (pss_cons (ps_set (i := 5) sc__law_tables.nd rfl (by first | exact Or.inl rfl | exact Or.inr rfl) (pe_lst pa_nil))
  (pss_cons (ps_for PassesOwn.never rfl (pi_range1 rfl B.range (pa_cons (pe_op op_add pe_int (pe_has G_pick hr1 (pa_cons (pv 0) (pa_cons pe_int pa_nil)))) pa_nil)) (pg_name (i := 6) sc__law_tables.nd rfl (by first | exact Or.inl rfl | exact Or.inr rfl))
  (pss_one (ps_expr (pe_has G_name hr (pa_cons (pv 0) (pa_cons (pv 5) pa_nil))))))
  (pss_one (ps_expr (pe_bm PySem.F.plainAttrs_list PySem.F.slot_list_append PySem.F.type_list_append mt_append (pv 2) (pa_cons (pe_tup (pa_cons (pv 4) (pa_cons (pe_callTy call_tuple_of (by rfl) B.tuple (by decide +kernel) (pa_cons (pv 5) pa_nil)) pa_nil))) pa_nil))))))))
  (pss_one (ps_ret (pv 2)))))), ?_⟩
    refine ⟨by show 0 ≤ sizeLine; decide, fun pt npt => ⟨by show 0 ≤ sizeLine; decide, fun pl npl => ⟨by show 5 ≤ sizeLine; decide, fun p5 np5 => ?_⟩⟩⟩
    have tl : pt ≠ pl := fun z => by rw [← z, upd_same] at npl; cases npl
    have hpl : H pl = none := by rw [upd_ne (Ne.symm tl)] at npl; exact npl
    have k0 : Kp [] H (upd (upd (upd H pt (.lst [])) pl (.lst [])) p5 (.lst [.int 2, .int 1, .int 2, .int 3, .int 5])) := ((Kp.new npt).snoc npl).snoc np5
    have e1 : upd (upd (upd H pt (.lst [])) pl (.lst [])) p5 (.lst [.int 2, .int 1, .int 2, .int 3, .int 5]) pt = some (.lst []) := by
      have x1 : pt ≠ p5 := fun z => by rw [← z, upd_ne tl, upd_same] at np5; cases np5
      rw [upd_ne x1, upd_ne tl, upd_same]
    have e2 : upd (upd (upd H pt (.lst [])) pl (.lst [])) p5 (.lst [.int 2, .int 1, .int 2, .int 3, .int 5]) pl = some (.lst []) := by
      have x1 : pl ≠ p5 := fun z => by rw [← z, upd_same] at np5; cases np5
      rw [upd_ne x1, upd_same]
    have e3 : upd (upd (upd H pt (.lst [])) pl (.lst [])) p5 (.lst [.int 2, .int 1, .int 2, .int 3, .int 5]) p5 = some (.lst [.int 2, .int 1, .int 2, .int 3, .int 5]) := upd_same
    obtain ⟨tb, tc⟩ := BG.new npt
    obtain ⟨lb, lc⟩ := BG.new hpl
    refine ⟨_, rfl, b, c, 5, rfl, BG.keep0 k0, by decide, by decide, fun r H1 r0 r1 B1 k1 => ?_⟩
    have p5b : p5 ≠ b := (BG.keep0 ((Kp.new npt).snoc npl) |>.new np5).1
    have f1 : H1 pt = some (.lst []) := k1.at_ _ _ e1 (by simpa using tb)
    have f2 : H1 pl = some (.lst []) := k1.at_ _ _ e2 (by simpa using lb)
    have f3 : H1 p5 = _ := k1.at_ _ _ e3 (by simpa using p5b)
    have kH1 : Kp [b] H H1 := k0.zero.trans k1
    obtain ⟨kk, hk, kk1, kk5⟩ := five r.toNat (by omega)
    refine ⟨p5, _, r, .int kk, rfl, rfl, SqL.of f3, atI_of r0 hk, (kk : Int), rfl, by omega, by omega, ?_⟩
    refine for_range (lo := 0) (n := (kk : Int).toNat) (fun i σ H' => (∃ v3 v4 v5 v6 : Option V, σ = [some (.ref b), some (.ref pt), some (.ref pl), v3, v4, v5, v6]) ∧ Bag H' b c ∧ Kp [b] H H' ∧
        ∃ (tbs : List (Str × List Str)) (xs : List V), tbs.length = i ∧ H' pt = some (.lst ((tbs.map (·.1)).map V.str)) ∧ H' pl = some (.lst xs) ∧ xs.length = i ∧ ImAll H' 2 xs (tbs.map dTab) ∧ (∀ t ∈ tbs, GoodT t) ∧ (tbs.map (·.1)).Nodup)
      ⟨⟨none, none, none, none, rfl⟩, B1, kH1, [], [], rfl, f1, f2, rfl, .nil, (fun t h => nomatch h), List.nodup_nil⟩ ?_ ?_
    · rintro i σ H2 hi ⟨⟨v3, v4, v5, v6, rfl⟩, B2, k2, tbs, xs, t1, t2, t3, t4, t5, t6, t7⟩
      have hi5 : i < 5 := by omega
      refine ⟨_, rfl, _, rfl, b, c, pt, tbs.map (·.1), rfl, B2, t2, tb, tc, by rw [List.length_map]; omega, fun w1 H3 n1 nm1 B3 h3 k3 => ?_⟩
      have k3' : Kp [b] H H3 := k2.via k3 (by simp [npt])
      have lt : pl ∉ [b, pt] := by simp [lb, Ne.symm tl]
      have g3 : H3 pl = some (.lst xs) := k3.at_ _ _ t3 lt
      have i3 : ImAll H3 2 xs (tbs.map dTab) := ImAll.kp k3 t5
      refine ⟨by show 0 ≤ sizeLine; decide, fun pf npf => ?_⟩
      obtain ⟨fb, fc⟩ := B3.new npf
      have ft : pf ≠ pt := Ne.symm (ne_of_none h3 npf)
      have fl : pf ≠ pl := Ne.symm (ne_of_none g3 npf)
      have hpf : H pf = none := k3'.freeB B3 npf
      have k4 : Kp [b] H (upd H3 pf (.lst [])) := k3'.snoc npf
      refine ⟨_, rfl, b, c, 4, rfl, B3.keep0 (Kp.new npf), by decide, by decide, fun r4 H4 r40 r41 B4 k4' => ?_⟩
      have h4 : H4 pt = some (.lst ((tbs.map (·.1) ++ [w1]).map V.str)) := k4'.at_ _ _ (by rw [upd_ne (Ne.symm ft)]; exact h3) (by simpa using tb)
      have g4 : H4 pl = some (.lst xs) := k4'.at_ _ _ (by rw [upd_ne (Ne.symm fl)]; exact g3) (by simpa using lb)
      have f4 : H4 pf = some (.lst []) := k4'.at_ _ _ upd_same (by simpa using fb)
      have i4 : ImAll H4 2 xs (tbs.map dTab) := ImAll.kp k4' (ImAll.kp (Kp.new (ms := []) npf) i3)
      have k5 : Kp [b] H H4 := k4.trans k4'
      refine ⟨_, _, rfl, rfl, 1 + r4, rfl, by omega, by omega, ?_⟩
      refine for_range (lo := 0) (n := (1 + r4).toNat) (fun j σ H' => (∃ v6 : Option V, σ = [some (.ref b), some (.ref pt), some (.ref pl), some (.int (0 + (i : Int))), some (.str w1), some (.ref pf), v6]) ∧ Bag H' b c ∧ Kp [b] H H' ∧
          H' pt = some (.lst ((tbs.map (·.1) ++ [w1]).map V.str)) ∧ H' pl = some (.lst xs) ∧ ImAll H' 2 xs (tbs.map dTab) ∧ ∃ ws : List Str, ws.length = j ∧ H' pf = some (.lst (ws.map V.str)) ∧ (∀ w ∈ ws, IsNm w) ∧ ws.Nodup)
        ⟨⟨v6, rfl⟩, B4, k5, h4, g4, i4, [], rfl, f4, (fun w h => nomatch h), List.nodup_nil⟩ ?_ ?_
      · rintro j σ H5 hj ⟨⟨v6, rfl⟩, B5, k5', a1, a2, a3, ws, w1', w2, w3, w4⟩
        refine ⟨_, rfl, _, rfl, b, c, pf, ws, rfl, B5, w2, fb, fc, by omega, fun y H6 ny nmy B6 h6 k6 => ?_⟩
        have n1' : pt ∉ [b, pf] := by simp [tb, Ne.symm ft]
        have n2' : pl ∉ [b, pf] := by simp [lb, Ne.symm fl]
        refine ⟨⟨_, rfl⟩, B6, k5'.via k6 (by simp [hpf]), k6.at_ _ _ a1 n1', k6.at_ _ _ a2 n2', ImAll.kp k6 a3, ws ++ [y], by simp [w1'], h6, fun z hz => ?_, nd_snoc w4 nmy⟩
        rcases List.mem_append.mp hz with h | h
        · exact w3 z h
        · rw [List.mem_singleton.mp h]; exact ny
      · rintro σ H5 ⟨⟨v6, rfl⟩, B5, k5', a1, a2, a3, ws, w1', w2, w3, w4⟩
        refine ⟨_, rfl, .inl ⟨rfl, _, SqL.of a2⟩, _, rfl, _, rfl, pf, _, rfl, .inl ⟨SqL.of w2, fun u nu => ⟨by show 2 ≤ sizeLine; decide, fun q nq => ?_⟩⟩⟩
        have k6 : Kp [] H5 (upd (upd H5 u (.tup (ws.map V.str))) q (.tup [.str w1, .ref u])) := (Kp.new nu).snoc nq
        have a2' := k6.at_ _ _ a2 (fun z => nomatch z)
        refine ⟨pl, _, _, rfl, rfl, a2', by rw [t4]; exact small1000 (by omega), ?_⟩
        have k7 : Kp [pl] H5 (upd (upd (upd H5 u (.tup (ws.map V.str))) q (.tup [.str w1, .ref u])) pl (.lst (xs ++ [.ref q]))) := k6.zero.trans (Kp.updL a2' (by simp))
        have uq : u ≠ q := fun z => by rw [← z, upd_same] at nq; cases nq
        have ul : u ≠ pl := Ne.symm (ne_of_none a2 nu)
        have ql : q ≠ pl := fun z => by
          rw [z, upd_ne (Ne.symm ul), a2] at nq; cases nq
        refine ⟨⟨_, _, _, _, rfl⟩, B5.keep k7 (by simpa using Ne.symm lb) (by simpa using Ne.symm lc), k5'.via k7 (by simp [hpl]), tbs ++ [(w1, ws)], xs ++ [.ref q], by simp [t1], ?_, upd_same, by simp [t4], ?_, ?_, ?_⟩
        · have := k7.at_ _ _ a1 (by simpa using tl)
          rw [this]; simp
        · rw [List.map_append]
          refine DtAll.append (ImAll.kp k7 a3) (.cons ?_ .nil)
          have hu' : upd (upd (upd H5 u (.tup (ws.map V.str))) q (.tup [.str w1, .ref u])) pl (.lst (xs ++ [.ref q])) u = some (.tup (ws.map V.str)) := by rw [upd_ne ul, upd_ne uq, upd_same]
          have hq' : upd (upd (upd H5 u (.tup (ws.map V.str))) q (.tup [.str w1, .ref u])) pl (.lst (xs ++ [.ref q])) q = some (.tup [.str w1, .ref u]) := by rw [upd_ne ql, upd_same]
          exact .tup hq' ⟨by simp, _, hq'⟩ (.cons (.str _ (Nat.le_trans n1.2.1 (by decide))) (.cons (.tup hu' ⟨by rw [List.length_map]; omega, _, hu'⟩ (dtAll_strs fun w' hw' => Nat.le_trans (w3 w' hw').2.1 (by decide))) .nil))
        · intro t ht
          rcases List.mem_append.mp ht with h | h
          · exact t6 t h
          · rw [List.mem_singleton.mp h]
            exact ⟨n1, w3, w4, by show 1 ≤ ws.length; omega, by show ws.length ≤ 4; omega⟩
        · rw [List.map_append]
          exact nd_snoc t7 nm1
    · rintro σ H2 ⟨⟨v3, v4, v5, v6, rfl⟩, B2, k2, tbs, xs, t1, t2, t3, t4, t5, t6, t7⟩
      refine ⟨_, rfl, k pl xs tbs H2 B2 k2 hpl t3 t5 ⟨t6, t7, by omega, by omega⟩⟩
end
end Fm

namespace Fm
open PySem PySem.Spec PyProof.Rows L2
def GoodR (tbs : List (Str × List Str)) (R : List (List (List Int))) : Prop := tbs.length = R.length ∧ ∀ (i : Nat) t r, tbs[i]? = some t → R[i]? = some r → ∀ x ∈ r, x.length = t.2.length ∧ ∀ n ∈ x, InV n
theorem KvAt.get {H : Hp} : ∀ {kvs : List (Key × V)} {ts : List (Str × List Str)} {R : List (List (List Int))}, KvAt H kvs ts R → ∀ {i : Nat} {t : Str × List Str}, ts[i]? = some t → ∃ v r, kvs[i]? = some (.inr t.1, v) ∧ R[i]? = some r ∧ Im H 2 v (dRows r)
  | _, _, _, .cons a b, 0, t, h => by cases h; exact ⟨_, _, rfl, rfl, a⟩
  | _, _, _, .cons a b, i + 1, t, h => b.get (i := i) h
theorem KvAt.len {H : Hp} {kvs : List (Key × V)} {ts : List (Str × List Str)} {R : List (List (List Int))} (h : KvAt H kvs ts R) : kvs.length = ts.length := by
  have := congrArg List.length h.keys
  rwa [List.length_map, List.length_map] at this
theorem KvAt.lenR {H : Hp} : ∀ {kvs : List (Key × V)} {ts : List (Str × List Str)} {R : List (List (List Int))}, KvAt H kvs ts R → ts.length = R.length
  | _, _, _, .nil => rfl
  | _, _, _, .cons a b => congrArg (· + 1) b.lenR
theorem KvAt.val {H : Hp} {kvs : List (Key × V)} {ts : List (Str × List Str)} {R : List (List (List Int))} (h : KvAt H kvs ts R) (nd : (ts.map (·.1)).Nodup) {i : Nat} {t : Str × List Str} (ht : ts[i]? = some t) : ∃ v r, valV kvs (.inr t.1) = some v ∧ R[i]? = some r ∧ Im H 2 v (dRows r) := by
  obtain ⟨v, r, h1, h2, h3⟩ := h.get ht
  exact ⟨v, r, valV_at (by rw [h.keys]; exact inr_nd nd) h1, h2, h3⟩
theorem Im.rows {H : Hp} {v : V} {r : List (List Int)} (h : Im H 2 v (dRows r)) : ∃ a xs, v = .ref a ∧ H a = some (.tup xs) ∧ ImAll H 1 xs (r.map dRow) ∧ xs.length = r.length ∧ xs.length ≤ 1000000 := by
  cases h with
  | tup q l a => exact ⟨_, _, rfl, q, a, by rw [a.len, List.length_map], l.1⟩
theorem vals_of {m : Nat} : ∀ {r : List (List Int)}, (∀ x ∈ r, x.length = m ∧ ∀ n ∈ x, InV n) → ValsAll m (r.map dRow) r
  | [], _ => .nil
  | x :: r, h => .cons ⟨.inr rfl, (h x List.mem_cons_self).1, (h x List.mem_cons_self).2⟩ (vals_of fun y hy => h y (List.mem_cons_of_mem _ hy))
theorem Im.rowsV {H : Hp} {v : V} {r : List (List Int)} {m : Nat} (h : Im H 2 v (dRows r)) (hr : ∀ x ∈ r, x.length = m ∧ ∀ n ∈ x, InV n) : RowsV H v m r :=
  ⟨dRows r, r.map dRow, (h.weak).imp fun _ _ => trivial, .inr rfl, vals_of hr⟩
theorem InAll.of {H : Hp} {kvs : List (Key × V)} : ∀ {ts : List (Str × List Str)} {R : List (List (List Int))}, ts.length = R.length → (∀ (i : Nat) t r, ts[i]? = some t → R[i]? = some r → TabIn H kvs t r) → InAll H kvs ts R
  | [], [], _, _ => .nil
  | t :: ts, r :: R, hl, h => .cons (h 0 t r rfl rfl) (InAll.of (Nat.succ.inj hl) fun i t' r' a b => h (i + 1) t' r' a b)
theorem nd_ne {ts : List (Str × List Str)} (nd : (ts.map (·.1)).Nodup) {i j : Nat} {t u : Str × List Str} (h : ts[i]? = some t) (h' : ts[j]? = some u) (e : t.1 = u.1) : i = j := by
  have hi : i < (ts.map (·.1)).length := by rw [List.length_map]; exact (List.getElem?_eq_some_iff.mp h).1
  have hj : j < (ts.map (·.1)).length := by rw [List.length_map]; exact (List.getElem?_eq_some_iff.mp h').1
  refine nodup_at nd hi hj ?_
  have a := (List.getElem?_eq_some_iff.mp h).2
  have b := (List.getElem?_eq_some_iff.mp h').2
  rw [List.getElem_map, List.getElem_map, a, b, e]
theorem putK_keys {kvs : List (Key × V)} {k : Key} {x : V} (h : k ∈ kvs.map (·.1)) : (putK kvs k x).map (·.1) = kvs.map (·.1) := by
  unfold putK
  rw [if_pos (List.any_eq_true.mpr (by
    obtain ⟨p, hp, e⟩ := List.mem_map.mp h
    exact ⟨p, hp, by simp [e]⟩))]
  rw [List.map_map]
  refine List.map_congr_left fun p _ => ?_
  show (if p.1 = k then (p.1, x) else p).1 = p.1
  split <;> rfl
/-- the dict with one table's rows changed -/
theorem KvAt.put {H : Hp} {kvs : List (Key × V)} {ts : List (Str × List Str)} {R : List (List (List Int))} {d : Addr} {i : Nat} {t : Str × List Str} {v' : V} {r' : List (List Int)} (h : KvAt H kvs ts R) (g : GoodTs ts) (ht : ts[i]? = some t) (hd : H d = some (.dK (putK kvs (.inr t.1) v'))) (hv : Im H 2 v' (dRows r')) (gr : GoodR ts (R.set i r')) : DictIn H d ts (R.set i r') := by
  have hk := putK_keys (x := v') (show (Sum.inr t.1 : Key) ∈ kvs.map (·.1) by rw [h.keys]; exact List.mem_map.mpr ⟨t, List.mem_of_getElem? ht, rfl⟩)
  have hl : (putK kvs (.inr t.1) v').length = ts.length := by
    have := congrArg List.length hk
    rw [List.length_map, List.length_map] at this
    rw [this, h.len]
  have := g.2.2.2
  refine ⟨_, hd, by omega, fun kv hkv => ?_, InAll.of (by rw [List.length_set]; exact h.lenR) fun j u r hu hr => ?_⟩
  · have hm : kv.1 ∈ (putK kvs (.inr t.1) v').map (·.1) := List.mem_map.mpr ⟨kv, hkv, rfl⟩
    rw [hk, h.keys] at hm
    obtain ⟨u, hu, e⟩ := List.mem_map.mp hm
    exact ⟨u, hu, e.symm⟩
  · refine .inl ?_
    rw [valV_put]
    by_cases e : u.1 = t.1
    · have ij := nd_ne g.2.1 hu ht e
      subst ij
      rw [hu] at ht
      cases ht
      rw [if_pos rfl]
      rw [List.getElem?_set_self (by rw [← h.lenR]; exact (List.getElem?_eq_some_iff.mp hu).1)] at hr
      cases hr
      exact ⟨v', rfl, hv.rowsV (gr.2 j _ _ hu (by rw [List.getElem?_set_self (by rw [← h.lenR]; exact (List.getElem?_eq_some_iff.mp hu).1)]))⟩
    · have ij : i ≠ j := fun z => by
        subst z
        rw [hu] at ht
        cases ht
        exact e rfl
      rw [if_neg (fun z => e (Sum.inr.inj z))]
      obtain ⟨v, r0, a, b, c⟩ := h.val g.2.1 hu
      have hr2 := hr
      rw [List.getElem?_set_ne ij, b] at hr
      cases hr
      exact ⟨v, a, c.rowsV (gr.2 j u _ hu hr2)⟩
def spRowsOf (C CS : Addr) : Sp := fun vs H Q _ => ∃ (p ps : Addr) (tbs : List (Str × List Str)) (R : List (List (List Int))) (i : Nat) (t : Str × List Str) (r : List (List Int)), vs = [.ref p, .str t.1] ∧ StAt C CS H p ps tbs R ∧ GoodTs tbs ∧ tbs[i]? = some t ∧ R[i]? = some r ∧
  ∀ l xs H', Kp [] H H' → H l = none → H' l = some (.lst xs) → ImAll H' 1 xs (r.map dRow) → Q (.ref l) H'
theorem GoodR.set {tbs : List (Str × List Str)} {R : List (List (List Int))} {i : Nat} {t : Str × List Str} {r' : List (List Int)} (h : GoodR tbs R) (ht : tbs[i]? = some t) (hr : ∀ x ∈ r', x.length = t.2.length ∧ ∀ n ∈ x, InV n) : GoodR tbs (R.set i r') := by
  refine ⟨by rw [List.length_set]; exact h.1, fun j u r hu hj => ?_⟩
  by_cases e : i = j
  · subst e
    rw [hu] at ht
    cases ht
    rw [List.getElem?_set_self (by rw [← h.1]; exact (List.getElem?_eq_some_iff.mp hu).1)] at hj
    cases hj
    exact hr
  · rw [List.getElem?_set_ne e] at hj
    exact h.2 j u r hu hj
theorem total_set {R : List (List (List Int))} {r r' : List (List Int)} : ∀ {i : Nat}, R[i]? = some r → total (R.set i r') + r.length = total R + r'.length := by
  induction R with
  | nil => intro i h; cases h
  | cons x R ih =>
    intro i h
    cases i with
    | zero => cases h; simp only [total, List.set_cons_zero, List.map_cons, List.sum_cons]; omega
    | succ i =>
      have := ih (i := i) h
      simp only [total, List.set_cons_succ, List.map_cons, List.sum_cons] at this ⊢
      omega
theorem total_ge {R : List (List (List Int))} {i : Nat} {r : List (List Int)} (h : R[i]? = some r) : r.length ≤ total R := by
  have := total_set (r' := []) h
  simp only [List.length_nil] at this
  omega
def spWithRow (C CS CE : Addr) : Sp := fun vs H Q E => ∃ (p ps : Addr) (tbs : List (Str × List Str)) (R : List (List (List Int))) (i : Nat) (t : Str × List Str) (r : List (List Int)) (S : Addr → Prop) (q : Bool) (n : Nat) (x : V) (d : PyData), vs = [.ref p, .str t.1, x] ∧ StAt C CS H p ps tbs R ∧ GoodTs tbs ∧ GoodR tbs R ∧ tbs[i]? = some t ∧ R[i]? = some r ∧ total R + 1 ≤ 300 ∧ Dt S q H n x d ∧
  (∀ ns p' H', ValsD t.2.length d ns → Kp [] H H' → H p' = none → StAt C CS H' p' ps tbs (R.set i (r ++ [ns])) → Q (.ref p') H') ∧
  ((¬ ∃ ns, ValsD t.2.length d ns) → ∀ (u dd : Addr) (H' : Hp), Kp [] H H' → H' u = some (.tup [.str t.1, .int r.length]) → H' dd = some (.xd [("value", .ref u)]) → E (.ref CE) (some dd) H')
section
variable {P : Program} {w : World} {K : PySem.W.Frag} {mg : Str → Option Value} {base : Heap}
theorem ok_rows_of {f fF C CS CN : Addr} {fd fdF : FuncData} (B : Bi mg) (F : Fun K "rows_of" "Store.rows_of" s_Store_rows_of f fd) (T : ShCls K mg CS) (U : StCls K mg C) (GF : FnOk P w K mg base (L2.CX P w) 3 fF fdF ["self", "name"] (spFields CS CN)) (bF : Binds K fdF ["self", "name"] []) (mF : Meth K CS "fields_of" fF) :
    FnOk P w K mg base CX0 4 f fd ["self", "name"] (spRowsOf C CS) := by
  refine F.ok sc_Store_rows_of (fun vs H Q E h => ?_) (fun cdv A outer s H vs Q E hr h => ?_)
  · obtain ⟨p, ps, tbs, R, i, t, r, rfl, _⟩ := h; rfl
  · obtain ⟨p, ps, tbs, R, i, t, r, rfl, ⟨dx, kd, kvs, hp, SA, hkd, KV⟩, g, ht, hr1, k⟩ := h
    have hu := hu_of hr
    refine ⟨_, (pss_cons (ps_expr (pe_meth (pe_fld (pv 0) rfl) T.cl mF GF hr bF .nil passL (pa_cons (pv 1) pa_nil)))
  (pss_one (ps_ret (pe_callTy call_list_of (by rfl) B.list (by decide +kernel) (pa_cons (pe_dget hu (pe_fld (pv 0) rfl) (pv 1) (fun _ _ => rfl)) pa_nil))))), ?_⟩
    have gt := g.1 t (List.mem_of_getElem? ht)
    obtain ⟨sx, sv, hps, hsv⟩ := id SA
    refine ⟨_, rfl, p, C, dx, _, .ref ps, rfl, hp, U.cl, U.nS, rfl, ps, sx, _, rfl, hps, rfl, _, rfl, ?_⟩
    refine ⟨ps, (fun _ => True), true, 0, .str t.1, .str t.1, tbs, rfl, SA, g.2.1, .str _ (by have := gt.1.2.1; omega), fun t' ht' e a ia => ?_, fun hno => absurd rfl (hno t (List.mem_of_getElem? ht))⟩
    obtain ⟨v, r', hv, hr2, iv⟩ := KV.val g.2.1 ht
    rw [hr1] at hr2
    cases hr2
    obtain ⟨a2, xs, rfl, ha2, ix, _, _⟩ := iv.rows
    refine ⟨_, rfl, p, C, dx, _, .ref kd, rfl, hp, U.cl, U.nK, rfl, _, rfl, kd, .ref a2, rfl, .inl ⟨kvs, .inr t.1, .inl hkd, rfl, hv.symm⟩, a2, xs, rfl, .inr (.inl (.inl ha2)), fun l hl => ?_⟩
    exact k l xs _ (Kp.new hl) hl upd_same (ImAll.kp (ms := []) (Kp.new hl) ix)
end
end Fm

namespace Fm
open PySem PySem.Spec PyProof.Rows L2
/-! ### dict == dict, their values data: both answers -/
inductive EqKs (K : PySem.W.Frag) (H : Hp) (ls : List (Key × V)) : List (Key × V) → Bool → Prop
  | nil : EqKs K H ls [] true
  | miss {k : Key} {v : V} {r : List (Key × V)} : valV ls k = none → EqKs K H ls ((k, v) :: r) false
  | hit {k : Key} {v u : V} {d e : PyData} {b : Bool} {r : List (Key × V)} : valV ls k = some u → Dp K H v d → Dp K H u e → SeqAt.shaped d = true → SeqAt.shaped e = true → EqKs K H ls r b → EqKs K H ls ((k, v) :: r) (PyData.eqv d e && b)
def rEqKD (K : PySem.W.Frag) : R2 := fun x y H Q => ∃ a b ks ls r, x = .ref a ∧ y = .ref b ∧ H a = some (.dK ks) ∧ H b = some (.dK ls) ∧ EqKs K H ls ks r ∧ Q (.bl (ks.length == ls.length && r)) H
def rNeKD (K : PySem.W.Frag) : R2 := fun x y H Q => ∃ a b ks ls r, x = .ref a ∧ y = .ref b ∧ H a = some (.dK ks) ∧ H b = some (.dK ls) ∧ EqKs K H ls ks r ∧ Q (.bl (!(ks.length == ls.length && r))) H
section
variable {X : Cx}
theorem EqKs.hits {pins : List (Addr × Obj)} {σ : L2.St} {H : Hp} {s : Shared} (I : L2.Inv X pins σ H s) (hu : X.A.in1.units + 64 < cLine) {ls : List (Key × V)} {vb : List (Key × Value)} (rb : KV ls vb) : ∀ {ks : List (Key × V)} {va : List (Key × Value)} {r : Bool}, KV ks va → EqKs X.K H ls ks r → PySem.W.KeqHits X.A.in1 s vb va r := by
  intro ks va r ra
  unfold KV at ra
  induction ra generalizing r with
  | nil => intro h; cases h; exact .nil
  | @cons p q ps qs h t ih =>
    intro hh
    obtain ⟨pk, pv⟩ := p
    obtain ⟨qk, qv⟩ := q
    obtain ⟨h1, h2⟩ := h
    have h1 : pk = qk := h1
    subst h1
    have rr := rb.val pk
    cases hh with
    | miss hm =>
      rw [hm] at rr
      refine .miss ?_
      cases hv : valueAt vb pk with
      | none => rfl
      | some y => rw [hv] at rr; cases rr
    | hit hm d1 d2 s1 s2 hr =>
      rw [hm] at rr
      obtain ⟨y, hy, ry⟩ := rr.some_of
      obtain ⟨as, r1⟩ := Dp.reads I _ _ _ d1 h2
      obtain ⟨bs, r2⟩ := Dp.reads I _ _ _ d2 ry
      exact .hit hy (PySem.W.keq_at r1 r2 s1 s2 hu) (ih hr)
theorem op_eqKD (hu : X.A.units + 65 < cLine) : OpR X (compareOp .Eq) (rEqKD X.K) := by
  intro pins s σ H x y v u Q I rx ry h
  obtain ⟨a, b, ks, ls, r, rfl, rfl, ea, eb, hk, q⟩ := h
  cases rx
  cases ry
  obtain ⟨_, ya, va, ra, da⟩ := (show ObjOk X.prog X.w H s.heap a (.dK ks) from I.hok a _ ea)
  obtain ⟨_, yb, vb, rb, db⟩ := (show ObjOk X.prog X.w H s.heap b (.dK ls) from I.hok b _ eb)
  exact PySem.W.keq_eq (knd := mixKind X.prog X.w) ya yb da db (by omega) (fun _ => hk.hits I (by show X.A.units + 1 + 64 < cLine; omega) rb ra) (fin_bl I q (by rw [ra.length, rb.length]))
theorem op_neKD (hu : X.A.units + 65 < cLine) : OpR X (compareOp .NotEq) (rNeKD X.K) := by
  intro pins s σ H x y v u Q I rx ry h
  obtain ⟨a, b, ks, ls, r, rfl, rfl, ea, eb, hk, q⟩ := h
  cases rx
  cases ry
  obtain ⟨_, ya, va, ra, da⟩ := (show ObjOk X.prog X.w H s.heap a (.dK ks) from I.hok a _ ea)
  obtain ⟨_, yb, vb, rb, db⟩ := (show ObjOk X.prog X.w H s.heap b (.dK ls) from I.hok b _ eb)
  exact PySem.W.keq_ne (knd := mixKind X.prog X.w) ya yb da db (by omega) (fun _ => hk.hits I (by show X.A.units + 1 + 64 < cLine; omega) rb ra) (fin_bl I q (by rw [ra.length, rb.length]))
end
theorem eqv_ints : ∀ a b : List Int, PyData.eqvAll (a.map .int) (b.map .int) = decide (a = b)
  | [], [] => by simp [PyData.eqvAll]
  | [], _ :: _ => by simp [PyData.eqvAll]
  | _ :: _, [] => by simp [PyData.eqvAll]
  | x :: a, y :: b => by
    simp only [List.map_cons, PyData.eqvAll, PyData.eqv, eqv_ints a b]
    by_cases h : x = y
    · subst h; simp
    · simp [h]
theorem eqv_rowsL : ∀ a b : List (List Int), PyData.eqvAll (a.map dRow) (b.map dRow) = decide (a = b)
  | [], [] => by simp [PyData.eqvAll]
  | [], _ :: _ => by simp [PyData.eqvAll]
  | _ :: _, [] => by simp [PyData.eqvAll]
  | x :: a, y :: b => by
    simp only [List.map_cons, PyData.eqvAll, dRow, PyData.eqv, eqv_ints]
    rw [eqv_rowsL a b]
    by_cases h : x = y
    · subst h; simp
    · simp [h]
theorem lay_ints : ∀ a : List Int, PyData.canLayAll0 (a.map .int) = true
  | [] => by simp [PyData.canLayAll0]
  | x :: a => by simp [PyData.canLayAll0, PyData.canLay0, lay_ints a]
theorem lay_rows : ∀ a : List (List Int), PyData.canLayAll0 (a.map dRow) = true
  | [] => by simp [PyData.canLayAll0]
  | x :: a => by
    simp only [List.map_cons, PyData.canLayAll0, dRow, PyData.canLay0, lay_ints, Bool.true_and]
    exact lay_rows a
theorem dep_ints : ∀ a : List Int, PyData.depthAll (a.map .int) = 0
  | [] => by simp [PyData.depthAll]
  | x :: a => by simp [PyData.depthAll, PyData.depth, dep_ints a]
theorem dep_rows : ∀ a : List (List Int), PyData.depthAll (a.map dRow) ≤ 1
  | [] => by simp [PyData.depthAll]
  | x :: a => by
    have := dep_rows a
    simp only [List.map_cons, PyData.depthAll, dRow, PyData.depth, dep_ints]
    omega
theorem shaped_tup (a : List (List Int)) : SeqAt.shaped (.tuple (a.map dRow)) = true := by
  have h := dep_rows a
  refine Bool.and_eq_true_iff.mpr ⟨by simp only [PyData.canLay0, lay_rows], decide_eq_true ?_⟩
  simp only [PyData.depth]
  omega
theorem shaped_lst (a : List (List Int)) : SeqAt.shaped (.list (a.map dRow)) = true := by
  have h := dep_rows a
  refine Bool.and_eq_true_iff.mpr ⟨by simp only [PyData.canLay0, lay_rows], decide_eq_true ?_⟩
  simp only [PyData.depth]
  omega
/-- a dict of the tables' rows, as law or store keeps it: rows as tuples (kept) or lists (due) -/
inductive KvG (H : Hp) (mk : List PyData → PyData) : List (Key × V) → List (Str × List Str) → List (List (List Int)) → Prop
  | nil : KvG H mk [] [] []
  | cons {S : Addr → Prop} {q : Bool} {v : V} {kvs : List (Key × V)} {t : Str × List Str} {ts : List (Str × List Str)} {r : List (List Int)} {R : List (List (List Int))} : Dt S q H 2 v (mk (r.map dRow)) → KvG H mk kvs ts R → KvG H mk ((.inr t.1, v) :: kvs) (t :: ts) (r :: R)
theorem KvAt.g {H : Hp} : ∀ {kvs : List (Key × V)} {ts : List (Str × List Str)} {R : List (List (List Int))}, KvAt H kvs ts R → KvG H .tuple kvs ts R
  | _, _, _, .nil => .nil
  | _, _, _, .cons a b => .cons a b.g
theorem KvG.len {H : Hp} {mk : List PyData → PyData} : ∀ {kvs : List (Key × V)} {ts : List (Str × List Str)} {R : List (List (List Int))}, KvG H mk kvs ts R → kvs.length = ts.length
  | _, _, _, .nil => rfl
  | _, _, _, .cons a b => congrArg (· + 1) b.len
theorem KvG.lenR {H : Hp} {mk : List PyData → PyData} : ∀ {kvs : List (Key × V)} {ts : List (Str × List Str)} {R : List (List (List Int))}, KvG H mk kvs ts R → ts.length = R.length
  | _, _, _, .nil => rfl
  | _, _, _, .cons a b => congrArg (· + 1) b.lenR
theorem KvG.keys {H : Hp} {mk : List PyData → PyData} : ∀ {kvs : List (Key × V)} {ts : List (Str × List Str)} {R : List (List (List Int))}, KvG H mk kvs ts R → kvs.map (·.1) = ts.map fun t => Sum.inr t.1
  | _, _, _, .nil => rfl
  | _, _, _, .cons a b => by rw [List.map_cons, List.map_cons, b.keys]
theorem KvG.get {H : Hp} {mk : List PyData → PyData} : ∀ {kvs : List (Key × V)} {ts : List (Str × List Str)} {R : List (List (List Int))}, KvG H mk kvs ts R → ∀ {i : Nat} {t : Str × List Str}, ts[i]? = some t → ∃ S q v r, kvs[i]? = some (.inr t.1, v) ∧ R[i]? = some r ∧ Dt S q H 2 v (mk (r.map dRow))
  | _, _, _, .cons a b, 0, t, h => by cases h; exact ⟨_, _, _, _, rfl, rfl, a⟩
  | _, _, _, .cons a b, i + 1, t, h => b.get (i := i) h
theorem KvG.val {H : Hp} {mk : List PyData → PyData} {kvs : List (Key × V)} {ts : List (Str × List Str)} {R : List (List (List Int))} (h : KvG H mk kvs ts R) (nd : (ts.map (·.1)).Nodup) {i : Nat} {t : Str × List Str} (ht : ts[i]? = some t) : ∃ S q v r, valV kvs (.inr t.1) = some v ∧ R[i]? = some r ∧ Dt S q H 2 v (mk (r.map dRow)) := by
  obtain ⟨S, q, v, r, h1, h2, h3⟩ := h.get ht
  exact ⟨S, q, v, r, valV_at (by rw [h.keys]; exact inr_nd nd) h1, h2, h3⟩
theorem eqks_of {K : PySem.W.Frag} {H : Hp} {mk : List PyData → PyData} (hl : ∀ a : List (List Int), (mk (a.map dRow)).canLay0 = true) (hs : ∀ a : List (List Int), SeqAt.shaped (mk (a.map dRow)) = true) (he : ∀ a b : List (List Int), PyData.eqv (mk (a.map dRow)) (mk (b.map dRow)) = decide (a = b))
    {ls : List (Key × V)} {tbs : List (Str × List Str)} {R' : List (List (List Int))} (B : KvG H mk ls tbs R') (nd : (tbs.map (·.1)).Nodup) :
    ∀ {ks : List (Key × V)} {ts : List (Str × List Str)} {R : List (List (List Int))} (n : Nat), KvG H mk ks ts R → ts = tbs.drop n → EqKs K H ls ks (decide (R = R'.drop n))
  | _, _, _, n, .nil, e => by
    have : R'.drop n = [] := by
      have h1 := congrArg List.length e
      rw [List.length_nil, List.length_drop] at h1
      exact List.drop_eq_nil_of_le (by rw [← B.lenR]; omega)
    rw [this]; exact .nil
  | _, _, _, n, @KvG.cons _ _ S q v kvs t ts r R a b, e => by
    have ht : tbs[n]? = some t := by
      have := congrArg (·[0]?) e
      simpa using this.symm
    obtain ⟨S', q', u, r', h1, h2, h3⟩ := B.val nd ht
    have hd : tbs.drop (n + 1) = ts := by
      have := congrArg List.tail e
      simpa using this.symm
    have hR : R'.drop n = r' :: R'.drop (n + 1) := by
      have hn : n < R'.length := (List.getElem?_eq_some_iff.mp h2).1
      rw [List.drop_eq_getElem_cons hn, (List.getElem?_eq_some_iff.mp h2).2]
    have := EqKs.hit (K := K) h1 (a.dp (hl r)) (h3.dp (hl r')) (hs r) (hs r') (eqks_of hl hs he B nd (n + 1) b hd.symm)
    rw [he] at this
    rw [hR]
    have e2 : decide (r :: R = r' :: R'.drop (n + 1)) = (decide (r = r') && decide (R = R'.drop (n + 1))) := by
      rw [← Bool.decide_and]
      exact decide_eq_decide.mpr List.cons_eq_cons
    rw [e2]; exact this
theorem eqks_t {K : PySem.W.Frag} {H : Hp} {ks ls : List (Key × V)} {tbs : List (Str × List Str)} {R R' : List (List (List Int))} (A : KvG H .tuple ks tbs R) (B : KvG H .tuple ls tbs R') (nd : (tbs.map (·.1)).Nodup) : EqKs K H ls ks (decide (R = R')) :=
  eqks_of (fun a => by simp [PyData.canLay0, lay_rows]) shaped_tup (fun a b => by simp only [PyData.eqv, eqv_rowsL]) B nd 0 A rfl
theorem eqks_l {K : PySem.W.Frag} {H : Hp} {ks ls : List (Key × V)} {tbs : List (Str × List Str)} {R R' : List (List (List Int))} (A : KvG H .list ks tbs R) (B : KvG H .list ls tbs R') (nd : (tbs.map (·.1)).Nodup) : EqKs K H ls ks (decide (R = R')) :=
  eqks_of (fun a => by simp [PyData.canLay0, lay_rows]) shaped_lst (fun a b => by simp only [PyData.eqv, eqv_rowsL]) B nd 0 A rfl
def spStEq (C CS : Addr) : Sp := fun vs H Q _ => ∃ (p p' ps ps' : Addr) (tbs : List (Str × List Str)) (R R' : List (List (List Int))), vs = [.ref p, .ref p'] ∧ StAt C CS H p ps tbs R ∧ StAt C CS H p' ps' tbs R' ∧ GoodTs tbs ∧ ∀ H', Kp [] H H' → Q (.bl (decide (R = R'))) H'
section
variable {P : Program} {w : World} {K : PySem.W.Frag} {mg : Str → Option Value} {base : Heap}
theorem ok_store_eq {f fE C CS : Addr} {fd fdE : FuncData} (B : Bi mg) (F : Fun K "__eq__" "Store.__eq__" s_Store_eq f fd) (T : ShCls K mg CS) (X : InsX K CS) (nf : PySem.W.notFirst K CS (.ref CS) = true) (U : StCls K mg C) (V : InsX K C) (GE : FnOk P w K mg base CX0 1 fE fdE ["self", "other"] (spShEq CS)) (bE : Binds K fdE ["self", "other"] []) (EC : EqC K CS fE) :
    FnOk P w K mg base CX0 2 f fd ["self", "other"] (spStEq C CS) := by
  refine F.ok sc_Store_eq (fun vs H Q E h => ?_) (fun cdv A outer s H vs Q E hr h => ?_)
  · obtain ⟨p, p', ps, ps', tbs, R, R', rfl, _⟩ := h; rfl
  · obtain ⟨p, p', ps, ps', tbs, R, R', rfl, ⟨dx, kd, kvs, hp, SA, hkd, KV1⟩, ⟨dx', kd', kvs', hp', SA', hkd', KV2⟩, g, k⟩ := h
    have hu65 : (A.deeper (envOfC "Store.__eq__" (defScope s_Store_eq) s.heap.objs.size f cdv)).units + 65 < cLine := by have := hr.un; omega
    refine ⟨_, (pss_one (ps_ret (pe_and (pe_callB call_isi (by rfl) B.isinstance (by decide +kernel) (pa_cons (pv 1) (pa_cons (pe_glob (v := .ref C) rfl U.mgC rfl) pa_nil))) (pe_and (pe_cmpR (op_eqO EC GE bE pass0 hr) (pe_fld (pv 0) rfl) (pe_fld (pv 1) rfl) (nomark _)) (pe_one (pe_cmpR (op_eqKD hu65) (pe_fld (pv 0) rfl) (pe_fld (pv 1) rfl) (nomark _))))))), ?_⟩
    obtain ⟨sx, sv, hps, hsv⟩ := id SA
    obtain ⟨sx', sv', hps', hsv'⟩ := id SA'
    refine ⟨_, rfl, _, _, _, _, _, rfl, .own C, V.ty hp', kit_self, _, rfl, iteT ?_⟩
    refine ⟨_, rfl, p, C, dx, _, .ref ps, rfl, hp, U.cl, U.nS, rfl, _, rfl, p', C, dx', _, .ref ps', rfl, hp', U.cl, U.nS, rfl, ps, sx, _, .ref CS, rfl, hps, X.ty hps', nf, ?_⟩
    refine ⟨ps, .ref ps', tbs, rfl, SA, g.1, .inl ⟨ps', tbs, rfl, SA', g.1, _, rfl, _, rfl, ?_⟩⟩
    rw [decide_eq_true (rfl : tbs = tbs)]
    refine iteT ?_
    refine ⟨_, rfl, p, C, dx, _, .ref kd, rfl, hp, U.cl, U.nK, rfl, _, rfl, p', C, dx', _, .ref kd', rfl, hp', U.cl, U.nK, rfl, kd, kd', kvs, kvs', _, rfl, rfl, hkd, hkd', eqks_t KV1.g KV2.g g.2.1, ?_⟩
    rw [show (kvs.length == kvs'.length) = true by rw [KV1.len, KV2.len]; simp, Bool.true_and]
    exact k H (Kp.refl _)
end
end Fm

/-! a try with several clauses, each with or without «as n» -/
namespace L2
open PySem PySem.Spec PyProof.Rows
structure Hd where
  c : Value
  i : Option Nat
  ts : Addr → Value → Option Addr → TS
def Hd.go (z : Hd) (e : Addr) (cls : Value) (d : Option Addr) : TS := fun D σ H => match z.i with
  | none => z.ts e cls d D σ H
  | some i => z.ts e cls d { nx := fun σ2 H2 => D.nx (σ2.set i none) H2, rt := D.rt, bk := fun σ2 H2 => D.bk (σ2.set i none) H2, ct := fun σ2 H2 => D.ct (σ2.set i none) H2 } (σ.set i (some (.ref e))) H
/-- what the clauses wish of an exception of the body -/
def wCl (K : PySem.W.Frag) (Wo : WX) (D : Ends) : List Hd → WX
  | [] => Wo
  | z :: r => fun cls d σ H => ∃ b, PySem.W.exmOne K cls z.c = some b ∧ (b = true → ∀ e, H e = none → z.go e cls d D σ H) ∧ (b = false → wCl K Wo D r cls d σ H)
inductive Cl (X : Cx) : List ExceptHandler → List Hd → Prop
  | nil : Cl X [] []
  | bare {x : Str} {c : Value} {ts : Addr → Value → Option Addr → TS} {s1 : Stmt} {su : List Stmt} {q1 q2 : Pos} {hs : List ExceptHandler} {l : List Hd} (nm : Names X x c)
      (ok : ∀ (e : Addr) (oe : Obj) (cls : Value) (d : Option Addr) (pn : List (Addr × Obj)), Zc cls d oe → (∃ vs, oe.data = .fields vs) → PSs (X.suite e ((e, oe) :: pn)) (s1 :: su) (ts e cls d)) (r : Cl X hs l) :
      Cl X (.ExceptHandler (some (.Name x q1)) none (s1 :: su) q2 :: hs) (⟨c, none, ts⟩ :: l)
  | named {x n : Str} {i : Nat} {c : Value} {ts : Addr → Value → Option Addr → TS} {s1 : Stmt} {su : List Stmt} {q1 q2 : Pos} {hs : List ExceptHandler} {l : List Hd} (nd : X.N.Nodup) (at_ : X.N[i]? = some n) (lo : X.env.kindOf n = some .local) (nm : Names X x c)
      (ok : ∀ (e : Addr) (oe : Obj) (cls : Value) (d : Option Addr) (pn : List (Addr × Obj)), Zc cls d oe → (∃ vs, oe.data = .fields vs) → PSs (X.suite e ((e, oe) :: pn)) (s1 :: su) (ts e cls d)) (r : Cl X hs l) :
      Cl X (.ExceptHandler (some (.Name x q1)) (some n) (s1 :: su) q2 :: hs) (⟨c, some i, ts⟩ :: l)
section
variable {X : Cx} {body : List Stmt} {z₀ : ExceptHandler} {zs : List ExceptHandler} {l : List Hd} {pos : Pos} {tb : WX → TS} {Wo : WX}
theorem ps_try_cl (es : X.stack = X.env :: X.outer) (ef : X.env.frame = some X.env.locals) (tk : Takes X Wo)
    (hb : ∀ (W : WX) (pn : List (Addr × Obj)) (xe : Value → Shared → Prop), Takes (X.tr pn xe) W → PassesOwn (model X.prog X.w) X.A X.env xe → PSs (X.tr pn xe) body (tb W))
    (hh : Cl X (z₀ :: zs) l) : PS X (.Try body (z₀ :: zs) [] [] pos) (fun D σ H => tb (wCl X.K Wo D l) D σ H) := by
  refine ⟨fun pins s σ H D I0 hw => ?_⟩
  have ok := I0.ok
  have fr0 : X.A.frames = some (X.env :: X.outer) := ok.frames.trans (by rw [es])
  refine wpAny_Try_except ?_
  have run0 := (hb (wCl X.K Wo D l) (X.pn ++ pins) (fun e sa => wpAny (model X.prog X.w) X.A (noteFrame e X.env) (fun _ sb => wpAny (model X.prog X.w) X.A (setFlight e none) (fun _ sc => wpAny (model X.prog X.w) X.A (handleBy e X.env (z₀ :: zs)) (SP X pins D) X.xe sc) X.xe sb) X.xe sa) (fun u s2 xx => ?_) PassesOwn.looking).run [] s σ H D (I0.toTry _) hw
  · refine wpAny_mono run0 (fun f s1 got => ?_) (fun _ _ q => q)
    cases f with
    | ret u => obtain ⟨v, σ2, H2, J, r, q⟩ := got; exact ⟨v, σ2, H2, J.ofTry ok, r, q⟩
    | next => obtain ⟨σ2, H2, J, q⟩ := got; exact wpAny_execs_nil ⟨σ2, H2, J.ofTry ok, q⟩
    | cont => obtain ⟨σ2, H2, J, q⟩ := got; exact ⟨σ2, H2, J.ofTry ok, q⟩
    | brk => obtain ⟨σ2, H2, J, q⟩ := got; exact ⟨σ2, H2, J.ofTry ok, q⟩
  · obtain ⟨e, B, sI, pins2, σ2, H2, cls, d, rfl, Jt, nb, up, sky, na, os, ag, wish⟩ := xx
    have J : Inv X pins σ2 H2 sI := Jt.ofTry ok
    show wpAny (model X.prog X.w) X.A (noteFrame (.ref e) X.env) _ _ _
    refine Sky.land Zc.steady fr0 ef (show Sky B (X.env :: X.outer) e (Zc cls d) X.env.locals s2.heap by rw [← es]; exact sky) fun g3 land3 up3 => ?_
    have J3 : Inv X pins σ2 H2 { s2 with heap := g3 } := J.landed nb land3.1 (up.trans up3) os ag
    obtain ⟨ob, fs, geto, zc3, dat⟩ := land3.there
    have off : e ∉ frs (X.env :: X.outer) := fun hm => by
      obtain ⟨_, o2, e2, nf⟩ := land3.2.2.1.mem hm
      rw [geto] at e2; cases e2
      exact nf _ dat
    have nL : e ≠ X.env.locals := fun q => off (List.mem_filterMap.mpr ⟨X.env, List.mem_cons_self, by rw [ef, q]⟩)
    have nF : e ∉ X.fs := fun hm => by
      obtain ⟨en, hen, q⟩ := List.mem_filterMap.mp hm
      exact off (List.mem_filterMap.mpr ⟨en, List.mem_cons_of_mem _ hen, q⟩)
    have S3 := J3.suite geto dat na nL nF
    have asks : ∀ {x : Str} {c : Value} {np : Pos} {Q E : Value → Shared → Prop}, Names X x c → Q c { s2 with heap := g3 } → wpAny (model X.prog X.w) (X.A.mark (some (.ref e))) (eval (.Name x np) X.env) Q E { s2 with heap := g3 } := fun {x c np Q E} nm q => by
      obtain ⟨hg, hdbg, hm | ⟨hm, hv, hnn⟩⟩ := nm
      · exact ld_glob (X := X.suite e ((e, ob) :: (X.pn ++ pins))) S3 hg hm q hdbg
      · exact ld_blt (X := X.suite e ((e, ob) :: (X.pn ++ pins))) S3 hg hm hv q hnn hdbg
    have LT : PySem.W.Looks (model X.prog X.w) g3 (typeOf (.ref e)) cls := fun A Q E s keep q => wpAny_typeOf_ref (keep _ _ geto) (by rw [zc3.1]; exact q)
    suffices go : ∀ {hs : List ExceptHandler} {l2 : List Hd}, Cl X hs l2 → wCl X.K Wo D l2 cls d σ2 H2 → wpAny (model X.prog X.w) X.A (handleBy (.ref e) X.env hs) (SP X pins D) X.xe { s2 with heap := g3 } from go hh wish
    intro hs l2 cl
    induction cl with
    | nil =>
      intro wi
      refine wpAny_handleBy_nil ?_
      obtain ⟨r1, r2, r3, oe, vs, T, oT, ts2, he, hz, hd, h1, hr⟩ := id land3
      unfold PySem.passOn
      refine wpAny_bind (wpAny_field he hd h1 ?_)
      rw [if_neg (show ¬ ((Value.ref T == Value.none) = true) from by simp)]
      have fin : wpAny (model X.prog X.w) X.A (setFlight (.ref e) X.env.frame) (fun _ sd => wpAny (model X.prog X.w) X.A (throw (.ref e) : Sem Flow) (SP X pins D) X.xe sd) X.xe { s2 with heap := g3 } := by
        rw [ef]
        exact HandSPX.setFlight_upZ land3 fun g4 hg4 up4 => wpAny_throw (tk _ _ ⟨e, B, sI, pins, σ2, H2, cls, d, rfl, J, nb, (up.trans up3).trans up4, .inr (.inr (by rw [es]; exact hg4)), na, os, ag, wi⟩)
      first
        | exact wpAny_bind (wpAny_pure (wpAny_bind fin))
        | exact wpAny_bind fin
    | @bare x c ts s1 su q1 q2 hs3 l3 nm okk r ih =>
      intro wi
      obtain ⟨b, hb1, yes, no⟩ := wi
      have LM := PySem.W.exm_one (M := model X.prog X.w) (J3.kIn) LT hb1
      refine wpAny_handleBy_cons (codeAny_handlers_test ?_) (by intro q; cases q)
      refine asks nm (LM.here ?_)
      cases b with
      | false =>
        show wpAny _ X.A (handleBy (.ref e) X.env hs3) _ _ _
        exact ih (no rfl)
      | true =>
        refine codeAny_handlers_suite ?_
        refine HandSPX.lands_againZ land3 fun g4 land4 up4 => ?_
        obtain ⟨o4, v4, get4, zc4, dat4⟩ := land4.there
        have J4 : Inv X pins σ2 H2 { s2 with heap := g4 } := J.landed nb land4.1 ((up.trans up3).trans up4) os ag
        refine wpAny_mono ((okk e o4 cls d (X.pn ++ pins) zc4 ⟨_, dat4⟩).run [] _ _ H2 _ (J4.suite get4 dat4 na nL nF) (yes rfl e na)) (fun f s6 got => ?_) (fun _ _ q => False.elim q)
        cases f with
        | ret u => obtain ⟨v6, σ6, H6, S6, r6, q6⟩ := got; exact ⟨_, _, _, S6.unsuite ok, r6, q6⟩
        | next => obtain ⟨σ6, H6, S6, q6⟩ := got; exact ⟨_, _, S6.unsuite ok, q6⟩
        | cont => obtain ⟨σ6, H6, S6, q6⟩ := got; exact ⟨_, _, S6.unsuite ok, q6⟩
        | brk => obtain ⟨σ6, H6, S6, q6⟩ := got; exact ⟨_, _, S6.unsuite ok, q6⟩
    | @named x n i c ts s1 su q1 q2 hs3 l3 nd at_ lo nm okk r ih =>
      intro wi
      obtain ⟨b, hb1, yes, no⟩ := wi
      have LM := PySem.W.exm_one (M := model X.prog X.w) (J3.kIn) LT hb1
      refine wpAny_handleBy_cons (codeAny_handlers_test ?_) (by intro q; cases q)
      refine asks nm (LM.here ?_)
      cases b with
      | false =>
        show wpAny _ X.A (handleBy (.ref e) X.env hs3) _ _ _
        exact ih (no rfl)
      | true =>
        refine codeAny_handlers_suite_as ?_
        refine HandSPX.lands_againZ land3 fun g4 land4 up4 => ?_
        obtain ⟨o4, v4, get4, zc4, dat4⟩ := land4.there
        have J4 : Inv X pins σ2 H2 { s2 with heap := g4 } := J.landed nb land4.1 ((up.trans up3).trans up4) os ag
        refine store_ok (X := X.suite e ((e, o4) :: (X.pn ++ pins))) (v := .ref e) (J4.suite get4 dat4 na nL nF) nd at_ (.inl lo) rfl (fun s5 S5 => ?_) (.inr lo)
        refine wpAny_mono ((okk e o4 cls d (X.pn ++ pins) zc4 ⟨_, dat4⟩).run [] s5 _ H2 _ S5 (yes rfl e na)) (fun f s6 got => ?_) (fun _ _ q => False.elim q)
        have gone : ∀ {σ6 : St} {H6 : Hp} {Q : Shared → Prop}, Inv (X.suite e ((e, o4) :: (X.pn ++ pins))) [] σ6 H6 s6 → (∀ s7, Inv X pins (σ6.set i none) H6 s7 → Q s7) →
            wpAny (model X.prog X.w) X.A (do bindName X.env n .none; unbindBehindTheSuite X.env n q2) (fun _ s7 => Q s7) X.xe s6 := fun {σ6 H6 Q} S6 hq => gone_ok (S6.unsuite ok) nd at_ lo hq
        cases f with
        | ret u => obtain ⟨v6, σ6, H6, S6, r6, q6⟩ := got; exact gone S6 fun s7 J7 => ⟨_, _, _, J7, r6, q6⟩
        | next => obtain ⟨σ6, H6, S6, q6⟩ := got; exact gone S6 fun s7 J7 => ⟨_, _, J7, q6⟩
        | cont => obtain ⟨σ6, H6, S6, q6⟩ := got; exact gone S6 fun s7 J7 => ⟨_, _, J7, q6⟩
        | brk => obtain ⟨σ6, H6, S6, q6⟩ := got; exact gone S6 fun s7 J7 => ⟨_, _, J7, q6⟩
end
end L2

namespace Fm
open PySem PySem.Spec PyProof.Rows L2
/-- an error without an __init__ -/
structure Err0 (K : PySem.W.Frag) (mg : Str → Option Value) (x : Str) (C : Addr) : Prop where
  ex : PySem.W.excIn K C [.type "ValueError", .type "Exception", .type "BaseException", .type "object"] "ValueError.__new__" = true
  gl : mg x = some (.ref C)
  kp : PySem.W.keepIn K (.ref C) = true
  bs : PySem.W.subIn K (.ref C) (.type "BaseException") = some true
  ty : PySem.W.typeIn K (.ref C) = some (.type "type")
theorem ps_raise0 {X : Cx} {x : Str} {C : Addr} {W : WX} {p pos pos2 : Pos} (hc : X.calm = true) (T : Err0 X.K X.mg x C) (tks : Takes X W) (hg : Gl X x := by rfl) (hdb : (x == ("__debug__" : Str)) = false := by decide) :
    PS X (.Raise (some (.Call (.Name x p) [] [] pos)) none pos2) (fun _ σ H => W (.ref C) none σ H) :=
  ps_raise hc tks (pmk_own0 F.excBase_ValueError T.ex T.gl T.kp (raises_own T.bs T.ty) hg hdb)
/-- Store.__init__, right rows, as many as you like -/
def spStoreT (C CS CM : Addr) : Sp := fun vs H Q E => ∃ (p dx ps d : Addr) (tbs : List (Str × List Str)) (R : List (List (List Int))), vs = [.ref p, .ref ps, .ref d] ∧ H p = some (.ins C dx []) ∧ ShapeAt CS H ps tbs ∧ GoodTs tbs ∧ DictIn H d tbs R ∧ total R ≤ 1000000 ∧
  (∀ H', total R ≤ 300 → Kp [p] H H' → StAt C CS H' p ps tbs R → Q .non H') ∧ (∀ H', 300 < total R → Kp [] H H' → E (.ref CM) none H')
def spRowsG (C CS CN : Addr) : Sp := fun vs H Q E => ∃ (p ps : Addr) (tbs : List (Str × List Str)) (R : List (List (List Int))) (S : Addr → Prop) (q : Bool) (n : Nat) (x : V) (d : PyData), vs = [.ref p, x] ∧ StAt C CS H p ps tbs R ∧ GoodTs tbs ∧ Dt S q H n x d ∧
  (∀ (i : Nat) t r, tbs[i]? = some t → R[i]? = some r → d = .str t.1 → ∀ l xs H', Kp [] H H' → H l = none → H' l = some (.lst xs) → ImAll H' 1 xs (r.map dRow) → Q (.ref l) H') ∧
  ((∀ t ∈ tbs, d ≠ .str t.1) → ∀ (dd : Addr) (H' : Hp), Kp [] H H' → H' dd = some (.xd [("value", x)]) → E (.ref CN) (some dd) H')
def spWithG (C CS CN CE CM : Addr) : Sp := fun vs H Q E => ∃ (p ps : Addr) (tbs : List (Str × List Str)) (R : List (List (List Int))) (S S' : Addr → Prop) (q q' : Bool) (n n' : Nat) (x y : V) (d e : PyData), vs = [.ref p, y, x] ∧ StAt C CS H p ps tbs R ∧ GoodTs tbs ∧ GoodR tbs R ∧ total R ≤ 300 ∧ Dt S q H n x d ∧ Dt S' q' H n' y e ∧
  (∀ (i : Nat) t r, tbs[i]? = some t → R[i]? = some r → e = .str t.1 →
    (∀ ns p' H', ValsD t.2.length d ns → total R + 1 ≤ 300 → Kp [] H H' → H p' = none → StAt C CS H' p' ps tbs (R.set i (r ++ [ns])) → Q (.ref p') H') ∧
    (∀ ns H', ValsD t.2.length d ns → 300 < total R + 1 → Kp [] H H' → E (.ref CM) none H') ∧
    ((¬ ∃ ns, ValsD t.2.length d ns) → ∀ (u dd : Addr) (H' : Hp), Kp [] H H' → H' u = some (.tup [.str t.1, .int r.length]) → H' dd = some (.xd [("value", .ref u)]) → E (.ref CE) (some dd) H')) ∧
  ((∀ t ∈ tbs, e ≠ .str t.1) → ∀ (dd : Addr) (H' : Hp), Kp [] H H' → H' dd = some (.xd [("value", y)]) → E (.ref CN) (some dd) H')
def spWoG (C CS CN CE : Addr) : Sp := fun vs H Q E => ∃ (p ps : Addr) (tbs : List (Str × List Str)) (R : List (List (List Int))) (S S' : Addr → Prop) (q q' : Bool) (n n' : Nat) (x y : V) (d e : PyData), vs = [.ref p, y, x] ∧ StAt C CS H p ps tbs R ∧ GoodTs tbs ∧ GoodR tbs R ∧ total R ≤ 300 ∧ Dt S q H n x d ∧ Dt S' q' H n' y e ∧
  (∀ (i : Nat) t r, tbs[i]? = some t → R[i]? = some r → e = .str t.1 →
    (∀ (j : Nat) p' H', d = .int (j : Int) → j < r.length → Kp [] H H' → H p' = none → StAt C CS H' p' ps tbs (R.set i (r.take j ++ r.drop (j + 1))) → Q (.ref p') H') ∧
    ((¬ ∃ j : Nat, d = .int (j : Int) ∧ j < r.length) → ∀ (dd : Addr) (H' : Hp), Kp [] H H' → H' dd = some (.xd [("value", x)]) → E (.ref CE) (some dd) H')) ∧
  ((∀ t ∈ tbs, e ≠ .str t.1) → ∀ (dd : Addr) (H' : Hp), Kp [] H H' → H' dd = some (.xd [("value", y)]) → E (.ref CN) (some dd) H')
theorem KvAt.nth {H : Hp} {kvs : List (Key × V)} {ts : List (Str × List Str)} {R : List (List (List Int))} (h : KvAt H kvs ts R) {i : Nat} {t : Str × List Str} (ht : ts[i]? = some t) : ∃ r, R[i]? = some r := let ⟨_, r, _, hr, _⟩ := h.get ht; ⟨r, hr⟩
theorem slA_in {K : PySem.W.Frag} {H : Hp} {a : Addr} {xs : List V} {lo hi : Option Int} {Q : VK} (h : H a = some (.tup xs)) (q : ∀ y H', Kp [] H H' → H' y = some (.tup (cutV xs lo hi)) → Q (.ref y) H') : rSlA K (.ref a) lo hi H Q := by
  refine ⟨a, xs, rfl, .inl (.inl h), fun hc => ?_, fun _ p hp => q p _ (Kp.new hp) upd_same⟩
  refine q a H (Kp.refl _) ?_
  rw [h]
  unfold cutV
  rw [hc.1, hc.2, List.drop_zero, Nat.sub_zero, List.take_length]
theorem DtAll.dropd {S : Addr → Prop} {q : Bool} {H : Hp} : ∀ {n : Nat} {v : List V} {d : List PyData}, DtAll S q H n v d → ∀ i : Nat, DtAll S q H n (v.drop i) (d.drop i)
  | _, _, _, .nil, i => by rw [List.drop_nil, List.drop_nil]; exact .nil
  | _, _, _, .cons a b, 0 => .cons a b
  | _, _, _, .cons a b, i + 1 => DtAll.dropd b i
section
variable {P : Program} {w : World} {K : PySem.W.Frag} {mg : Str → Option Value} {base : Heap}
theorem ok_store_initT {f C CS CM : Addr} {fd : FuncData} {tk : Tok} (B : Bi mg) (F : Fun K "__init__" "Store.__init__" s_Store_init f fd) (T : ShCls K mg CS) (X : InsX K CS) (U : StCls K mg C) (M : mg "MOST_ROWS" = some (.int 300 tk)) (EM : Err0 K mg "TooMany" CM) (G_check_rows : Has P w K mg base CX0 "check_rows" ["shape", "rows"] 4 (spCheck CS)) :
    FnOk P w K mg base (L2.CX P w) 5 f fd ["self", "shape", "rows"] (spStoreT C CS CM) := by
  refine F.okX sc_Store_init (fun vs H Q E h => ?_) (fun cdv A outer s H vs Q E hr h => ?_)
  · obtain ⟨p, dx, ps, d, tbs, R, rfl, _⟩ := h; rfl
  · obtain ⟨p, dx, ps, d, tbs, R, rfl, hp, SA, g, DI, tot, k, kM⟩ := h
    have hu := hu_of hr
    refine ⟨_, (pss_cons (ps_if (pt_not (pt_val (pe_callB call_isi (by rfl) B.isinstance (by decide +kernel) (pa_cons (pv 1) (pa_cons (pe_glob (v := .ref CS) rfl T.mgC rfl) pa_nil)))))
  (pss_one ps_never)
  pss_nil)
  (pss_cons (ps_expr (pe_has G_check_rows (hr.mono (by omega)) (pa_cons (pv 1) (pa_cons (pv 2) pa_nil))))
  (pss_cons (ps_set (i := 3) sc_Store_init.nd rfl (by first | exact Or.inl rfl | exact Or.inr rfl) pe_int)
  (pss_cons (ps_set (i := 4) sc_Store_init.nd rfl (by first | exact Or.inl rfl | exact Or.inr rfl) pe_dnewK)
  (pss_cons (ps_for (passes_of rfl) rfl (pi_tup (pe_fld (pv 1) rfl)) (pg_tup rfl (pgs_cons (pg_name (i := 5) sc_Store_init.nd rfl (by first | exact Or.inl rfl | exact Or.inr rfl)) (pgs_cons (pg_name (i := 6) sc_Store_init.nd rfl (by first | exact Or.inl rfl | exact Or.inr rfl)) pgs_nil)))
  (pss_cons (ps_dput hu (pv 4) (pv 5) (pe_callTy call_tuple_of (by rfl) B.tuple (by decide +kernel) (pa_cons (pe_lc (own := [("row", 7)]) (g := gName 7) (by rfl) sc_Store_init.nd (pi_or (pi_list (pe_dget2 hu (pv 2) (pv 5) (pe_tup pa_nil) ⟨rfl, rfl, rfl, rfl⟩)) (pi_tup (pe_dget2 hu (pv 2) (pv 5) (pe_tup pa_nil) ⟨rfl, rfl, rfl, rfl⟩))) (blkOk_by (own := [("row", 7)]) (N := N_Store_init) (sc := defScope s_Store_init) (by decide +kernel)) (fun _ _ _ _ _ => (pg_name (i := 7) sc_Store_init.nd rfl (by first | exact Or.inl rfl | exact Or.inr rfl))) (fun _ _ _ _ _ => pts_nil) (fun _ _ _ _ _ => (pe_callTy (r := rTupO K) call_tuple_of (by rfl) B.tuple (by decide +kernel) (pa_cons (pv 7) pa_nil)))) pa_nil)) rfl)
  (pss_one (ps_aug (i := 3) sc_Store_init.nd rfl (by first | exact Or.inl rfl | exact Or.inr rfl) (pe_callB call_len (by rfl) B.len PySem.boot_len (pa_cons (pe_dget hu (pv 4) (pv 5) (fun _ _ => rfl)) pa_nil)) ip_add))))
  (pss_cons (ps_if (pt_cmpR op_gt (pv 3) (pe_glob (v := .int 300) rfl M ⟨_, rfl⟩) (nomark _))
  (pss_one (ps_raise0 rfl EM (takes_of rfl rfl rfl rfl)))
  pss_nil)
  (pss_cons (ps_fld (pv 0) (pv 1) rfl)
  (pss_one (ps_fld (pv 0) (pv 4) rfl))))))))), ?_⟩
    obtain ⟨kvs, hd, lk, hkeys, hin⟩ := id DI.ex
    obtain ⟨sx, ta, xs, hps, hta, ix⟩ := SA.rows
    have el : xs.length = tbs.length := by rw [ix.len, List.length_map]
    have elR : tbs.length = R.length := hin.len
    have g5 := g.2.2.2
    refine ⟨_, rfl, _, _, _, _, _, rfl, .own CS, X.ty hps, kit_self, _, rfl, iteF ?_⟩
    refine ⟨_, rfl, _, rfl, ps, d, tbs, R, rfl, SA, g, DI, fun H1 k1 => ?_⟩
    intro D hD
    have k2 : Kp [] H (upd H1 D (.dK [])) := k1.snoc hD
    refine ⟨_, rfl, ps, CS, sx, _, .ref ta, rfl, k2.at_ _ _ hps (fun z => nomatch z), T.cl, T.nT, rfl, ta, rfl, ⟨_, .inl (.inl (k2.tp _ _ hta))⟩, ?_⟩
    refine for_it (walk_tup (xs := xs)) (fun i σ H' => (∃ o5 o6, σ = [some (.ref p), some (.ref ps), some (.ref d), some (.int (total (R.take i) : Nat)), some (.ref D), o5, o6, none]) ∧ Kp [] H H' ∧ ∃ kw, H' D = some (.dK kw) ∧ KvAt H' kw (tbs.take i) (R.take i)) ⟨⟨none, none, rfl⟩, k2, [], upd_same, .nil⟩ (fun i σ H' _ h => .inl (.inl (h.2.1.tp _ _ hta))) ?_ ?_
    · rintro i u σ H2 H3 hi ⟨⟨o5, o6, rfl⟩, k3, kw, hkw, KV1⟩ ⟨rfl, hu1⟩
      obtain ⟨a', b', t, rfl, ht, e1, e2⟩ := tab_at ix k3 hu1
      obtain ⟨r, hr1, hT⟩ := hin.get ht
      have hd3 := k3.at_ _ _ hd (fun z => nomatch z)
      have hDH : H D = none := k1.same.free hD
      refine ⟨a', _, rfl, SqT.of e1, rfl, _, _, rfl, _, _, rfl, rfl, ?_⟩
      have nk : valV kw (.inr t.1) = none := by
        refine valV_out ?_
        rw [KV1.keys, inr_map, List.map_take]
        intro hm
        obtain ⟨x, hx, ex⟩ := List.mem_map.mp hm
        cases ex
        exact notin_take g.2.1 (by rw [List.getElem?_map, ht]; rfl) hx
      have lkw : kw.length ≤ 5 := by
        have := congrArg List.length KV1.keys
        rw [List.length_map, List.length_map, List.length_take] at this
        omega
      have rlen : r.length ≤ 1000000 := by
        have h1 : total (R.take (i + 1)) ≤ total R := by
          unfold total
          have := congrArg (fun l => (l.map List.length).sum) (List.take_append_drop (i + 1) R)
          simp only [List.map_append, List.sum_append] at this
          omega
        have := total_snoc hr1
        omega
      rcases hT with ⟨v, hv, RV⟩ | ⟨hv, rfl⟩
      · obtain ⟨dd, es, dv, rr, VA⟩ := RV.keep k3
        have hdd : isRowD dd = true := by rcases rr with rfl | rfl <;> rfl
        obtain ⟨es', m2, a2, ys, rfl, hm2, ry, ly, _, ay, hds⟩ := dv.row hdd
        have e' : es' = es := by
          rcases hds with ⟨rfl, _⟩ | ⟨rfl, _⟩ <;> rcases rr with e | e <;> cases e <;> rfl
        subst e'
        rcases hds with ⟨_, _, r2⟩ | ⟨_, _, r2⟩
        · skip
          refine .inl ⟨_, rfl, d, rfl, .inl ⟨_, .inl hd3⟩, _, rfl, by show 0 ≤ sizeLine; decide, fun z hz => ⟨_, .inl ⟨kvs, .inr t.1, .inl (by rw [upd_ne (ne_of_none hd3 hz)]; exact hd3), rfl, hv.symm⟩, a2, rfl, ⟨_, .inl ((Kp.new (ms := []) hz).rd (fun z => nomatch z) r2)⟩, fun D2 hD2 => ?_⟩⟩
          refine lc_it (walk_list (xs := ys)) (fun j H' => ∃ zs, H' D2 = some (.lst zs) ∧ ImAll H' 1 zs ((r.take j).map dRow) ∧ zs.length = j ∧ Kp [] (upd H3 z (.tup [])) H') ⟨[], upd_same, .nil, rfl, Kp.new hD2⟩ (fun j H' _ ⟨_, _, _, _, k4⟩ => .inl (((Kp.new hz).trans k4).rd (fun z => nomatch z) r2)) (fun j u H4 H5 hj h4 hy => ?_) (fun H4 h4 => ?_)
          · obtain ⟨zs, h4, i4, l4, k4⟩ := h4
            obtain ⟨rfl, hu2⟩ := hy
            obtain ⟨e, he, dy⟩ := ay.getV hu2
            obtain ⟨r1, hr1, hv1⟩ := VA.get he
            obtain ⟨c1, rfl, rc⟩ := row_v (dy.keep ((Kp.new hz).trans k4)) hv1
            refine ⟨rfl, _, rfl, ?_⟩
            dsimp only [tNil]
            refine tupO_in rc fun l H6 k6 h6 => ?_
            have h46 := k6.at_ _ _ h4 (fun z => nomatch z)
            refine ⟨zs, h46, by rw [l4]; exact Nat.lt_of_lt_of_le hj (Nat.le_trans ly (by decide)), zs ++ [.ref l], upd_same, ?_, by simp [l4], (k4.trans k6).late hD2⟩
            rw [take_snoc hr1, List.map_append]
            have kD : Kp [D2] H6 (upd H6 D2 (.lst (zs ++ [.ref l]))) := Kp.updL h46 (by simp)
            have h7 := kD.tp _ _ h6
            refine (ImAll.kp (ms := [D2]) (k6.zero.trans kD) i4).append (.cons (.tup h7 ⟨?_, ⟨_, h7⟩⟩ (dtAll_ints r1)) .nil)
            rw [List.length_map, hv1.2.1]; have := (g.1 t (List.mem_of_getElem? ht)).2.2.2.2; omega
          · obtain ⟨zs, h4, i4, l4, k4⟩ := h4
            rw [ay.len, VA.len, List.take_length] at i4
            refine ⟨D2, zs, rfl, .inl ⟨SqL.of h4, fun l hl => ?_⟩⟩
            have lz : zs.length = r.length := by rw [l4, ay.len, VA.len]
            have kq := ((Kp.new hz).trans k4).snoc (o := .tup zs) hl
            have hD5 := kq.at_ _ _ hkw (fun z => nomatch z)
            refine ⟨_, rfl, _, rfl, D, _, rfl, .inl ⟨kw, .inr t.1, hD5, rfl, by show _ < 16777216; omega, rfl⟩, ?_⟩
            rw [putK_new _ nk]
            have ke : (kw ++ [((.inr t.1 : Key), V.ref l)]).map (·.1) = (tbs.take (i + 1)).map fun t => Sum.inr t.1 := by rw [List.map_append, KV1.keys, take_snoc ht, List.map_append]; rfl
            have nd : ((kw ++ [((.inr t.1 : Key), V.ref l)]).map (·.1)).Nodup := by rw [ke]; exact inr_nd (by rw [List.map_take]; exact g.2.1.sublist (List.take_sublist _ _))
            have vl := valV_at nd (i := kw.length) (k := .inr t.1) (v := .ref l) (by simp)
            have kD : Kp [D] (upd H4 l (.tup zs)) (upd (upd H4 l (.tup zs)) D (.dK (kw ++ [(.inr t.1, .ref l)]))) := Kp.set hD5 (fun _ z => by cases z) (by simp)
            have hl7 := kD.tp _ _ (upd_same (H := H4) (a := l))
            refine ⟨_, rfl, _, rfl, _, rfl, D, .ref l, rfl, .inl ⟨_, .inr t.1, .inl upd_same, rfl, vl.symm⟩, _, _, rfl, .inr ⟨zs, .inl (.inl hl7), rfl⟩, _, _, rfl, rfl, ?_⟩
            refine ⟨⟨some (.str t.1), some (.ref b'), ?_⟩, (k3.trans kq).late hDH, _, upd_same, ?_⟩
            · rw [show ((total (R.take (i + 1)) : Nat) : Int) = ((total (R.take i) : Nat) : Int) + ((zs.length : Nat) : Int) by rw [total_snoc hr1, lz, Int.natCast_add]]; rfl
            · rw [take_snoc ht, take_snoc hr1]
              have i7 := ImAll.kp kD (ImAll.kp (ms := []) (Kp.new hl) i4)
              exact (KV1.kp (ms := [D]) (kq.zero.trans kD)).snoc (.tup hl7 ⟨by rw [lz]; exact rlen, ⟨_, hl7⟩⟩ i7)
        · skip
          refine .inr ⟨_, rfl, d, rfl, .inl ⟨_, .inl hd3⟩, _, rfl, by show 0 ≤ sizeLine; decide, fun z hz => ⟨_, .inl ⟨kvs, .inr t.1, .inl (by rw [upd_ne (ne_of_none hd3 hz)]; exact hd3), rfl, hv.symm⟩, a2, rfl, ⟨_, .inl (.inl ((Kp.new (ms := []) hz).tp _ _ r2))⟩, fun D2 hD2 => ?_⟩⟩
          refine lc_it (walk_tup (xs := ys)) (fun j H' => ∃ zs, H' D2 = some (.lst zs) ∧ ImAll H' 1 zs ((r.take j).map dRow) ∧ zs.length = j ∧ Kp [] (upd H3 z (.tup [])) H') ⟨[], upd_same, .nil, rfl, Kp.new hD2⟩ (fun j H' _ ⟨_, _, _, _, k4⟩ => .inl (.inl (((Kp.new hz).trans k4).tp _ _ r2))) (fun j u H4 H5 hj h4 hy => ?_) (fun H4 h4 => ?_)
          · obtain ⟨zs, h4, i4, l4, k4⟩ := h4
            obtain ⟨rfl, hu2⟩ := hy
            obtain ⟨e, he, dy⟩ := ay.getV hu2
            obtain ⟨r1, hr1, hv1⟩ := VA.get he
            obtain ⟨c1, rfl, rc⟩ := row_v (dy.keep ((Kp.new hz).trans k4)) hv1
            refine ⟨rfl, _, rfl, ?_⟩
            dsimp only [tNil]
            refine tupO_in rc fun l H6 k6 h6 => ?_
            have h46 := k6.at_ _ _ h4 (fun z => nomatch z)
            refine ⟨zs, h46, by rw [l4]; exact Nat.lt_of_lt_of_le hj (Nat.le_trans ly (by decide)), zs ++ [.ref l], upd_same, ?_, by simp [l4], (k4.trans k6).late hD2⟩
            rw [take_snoc hr1, List.map_append]
            have kD : Kp [D2] H6 (upd H6 D2 (.lst (zs ++ [.ref l]))) := Kp.updL h46 (by simp)
            have h7 := kD.tp _ _ h6
            refine (ImAll.kp (ms := [D2]) (k6.zero.trans kD) i4).append (.cons (.tup h7 ⟨?_, ⟨_, h7⟩⟩ (dtAll_ints r1)) .nil)
            rw [List.length_map, hv1.2.1]; have := (g.1 t (List.mem_of_getElem? ht)).2.2.2.2; omega
          · obtain ⟨zs, h4, i4, l4, k4⟩ := h4
            rw [ay.len, VA.len, List.take_length] at i4
            refine ⟨D2, zs, rfl, .inl ⟨SqL.of h4, fun l hl => ?_⟩⟩
            have lz : zs.length = r.length := by rw [l4, ay.len, VA.len]
            have kq := ((Kp.new hz).trans k4).snoc (o := .tup zs) hl
            have hD5 := kq.at_ _ _ hkw (fun z => nomatch z)
            refine ⟨_, rfl, _, rfl, D, _, rfl, .inl ⟨kw, .inr t.1, hD5, rfl, by show _ < 16777216; omega, rfl⟩, ?_⟩
            rw [putK_new _ nk]
            have ke : (kw ++ [((.inr t.1 : Key), V.ref l)]).map (·.1) = (tbs.take (i + 1)).map fun t => Sum.inr t.1 := by rw [List.map_append, KV1.keys, take_snoc ht, List.map_append]; rfl
            have nd : ((kw ++ [((.inr t.1 : Key), V.ref l)]).map (·.1)).Nodup := by rw [ke]; exact inr_nd (by rw [List.map_take]; exact g.2.1.sublist (List.take_sublist _ _))
            have vl := valV_at nd (i := kw.length) (k := .inr t.1) (v := .ref l) (by simp)
            have kD : Kp [D] (upd H4 l (.tup zs)) (upd (upd H4 l (.tup zs)) D (.dK (kw ++ [(.inr t.1, .ref l)]))) := Kp.set hD5 (fun _ z => by cases z) (by simp)
            have hl7 := kD.tp _ _ (upd_same (H := H4) (a := l))
            refine ⟨_, rfl, _, rfl, _, rfl, D, .ref l, rfl, .inl ⟨_, .inr t.1, .inl upd_same, rfl, vl.symm⟩, _, _, rfl, .inr ⟨zs, .inl (.inl hl7), rfl⟩, _, _, rfl, rfl, ?_⟩
            refine ⟨⟨some (.str t.1), some (.ref b'), ?_⟩, (k3.trans kq).late hDH, _, upd_same, ?_⟩
            · rw [show ((total (R.take (i + 1)) : Nat) : Int) = ((total (R.take i) : Nat) : Int) + ((zs.length : Nat) : Int) by rw [total_snoc hr1, lz, Int.natCast_add]]; rfl
            · rw [take_snoc ht, take_snoc hr1]
              have i7 := ImAll.kp kD (ImAll.kp (ms := []) (Kp.new hl) i4)
              exact (KV1.kp (ms := [D]) (kq.zero.trans kD)).snoc (.tup hl7 ⟨by rw [lz]; exact rlen, ⟨_, hl7⟩⟩ i7)
      · obtain ⟨r, hrr⟩ : ∃ r : List (List Int), r = [] := ⟨_, rfl⟩
        refine .inr ⟨_, rfl, d, rfl, .inl ⟨_, .inl hd3⟩, _, rfl, by show 0 ≤ sizeLine; decide, fun z hz => ⟨_, .inl ⟨kvs, .inr t.1, .inl (by rw [upd_ne (ne_of_none hd3 hz)]; exact hd3), rfl, hv.symm⟩, z, rfl, ⟨_, .inl (.inl upd_same)⟩, fun D2 hD2 => ?_⟩⟩
        refine lc_it (walk_tup (xs := [])) (fun j H' => H' D2 = some (.lst []) ∧ Kp [] (upd H3 z (.tup [])) H') ⟨upd_same, Kp.new hD2⟩ (fun j H' _ ⟨_, k4⟩ => .inl (.inl (k4.tp _ _ upd_same))) (fun j u H4 H5 hj h4 hy => absurd hj (Nat.not_lt_zero _)) (fun H4 h4 => ?_)
        obtain ⟨h4, k4⟩ := h4
        obtain ⟨zs, hzs⟩ : ∃ zs : List V, zs = [] := ⟨_, rfl⟩
        rw [← hzs] at h4
        have i4 : ImAll H4 1 zs (([] : List (List Int)).map dRow) := by rw [hzs]; exact .nil
        refine ⟨D2, zs, rfl, .inl ⟨SqL.of h4, fun l hl => ?_⟩⟩
        have lz : zs.length = ([] : List (List Int)).length := by rw [hzs]; rfl
        have kq := ((Kp.new hz).trans k4).snoc (o := .tup zs) hl
        have hD5 := kq.at_ _ _ hkw (fun z => nomatch z)
        refine ⟨_, rfl, _, rfl, D, _, rfl, .inl ⟨kw, .inr t.1, hD5, rfl, by show _ < 16777216; omega, rfl⟩, ?_⟩
        rw [putK_new _ nk]
        have ke : (kw ++ [((.inr t.1 : Key), V.ref l)]).map (·.1) = (tbs.take (i + 1)).map fun t => Sum.inr t.1 := by rw [List.map_append, KV1.keys, take_snoc ht, List.map_append]; rfl
        have nd : ((kw ++ [((.inr t.1 : Key), V.ref l)]).map (·.1)).Nodup := by rw [ke]; exact inr_nd (by rw [List.map_take]; exact g.2.1.sublist (List.take_sublist _ _))
        have vl := valV_at nd (i := kw.length) (k := .inr t.1) (v := .ref l) (by simp)
        have kD : Kp [D] (upd H4 l (.tup zs)) (upd (upd H4 l (.tup zs)) D (.dK (kw ++ [(.inr t.1, .ref l)]))) := Kp.set hD5 (fun _ z => by cases z) (by simp)
        have hl7 := kD.tp _ _ (upd_same (H := H4) (a := l))
        refine ⟨_, rfl, _, rfl, _, rfl, D, .ref l, rfl, .inl ⟨_, .inr t.1, .inl upd_same, rfl, vl.symm⟩, _, _, rfl, .inr ⟨zs, .inl (.inl hl7), rfl⟩, _, _, rfl, rfl, ?_⟩
        refine ⟨⟨some (.str t.1), some (.ref b'), ?_⟩, (k3.trans kq).late hDH, _, upd_same, ?_⟩
        · rw [show ((total (R.take (i + 1)) : Nat) : Int) = ((total (R.take i) : Nat) : Int) + ((zs.length : Nat) : Int) by rw [total_snoc hr1, lz, Int.natCast_add]]; rfl
        · rw [take_snoc ht, take_snoc hr1]
          have i7 := ImAll.kp kD (ImAll.kp (ms := []) (Kp.new hl) i4)
          exact (KV1.kp (ms := [D]) (kq.zero.trans kD)).snoc (.tup hl7 ⟨by rw [lz]; exact rlen, ⟨_, hl7⟩⟩ i7)
    · rintro σ H3 ⟨⟨o5, o6, rfl⟩, k3, kw, hkw, KV1⟩
      rw [el, List.take_length] at KV1
      rw [elR, List.take_length] at KV1
      refine ⟨_, rfl, _, _, rfl, rfl, _, rfl, ?_⟩
      rw [el, elR, List.take_length]
      by_cases h300 : 300 < total R
      · rw [decide_eq_true (show ((300 : Int) < ((total R : Nat) : Int)) by omega)]
        refine iteT ?_
        exact kM _ h300 k3
      rw [decide_eq_false (show ¬ ((300 : Int) < ((total R : Nat) : Int)) by omega)]
      refine iteF ?_
      have hp3 := k3.at_ _ _ hp (fun z => nomatch z)
      refine ⟨_, rfl, _, rfl, p, C, dx, [], rfl, hp3, U.cl, U.nS, by show 0 < 1000; decide, ?_⟩
      refine ⟨_, rfl, _, rfl, p, C, dx, _, rfl, upd_same, U.cl, U.nK, by show 1 < 1000; decide, ?_⟩
      have kp1 : Kp [p] H3 (upd (upd H3 p (.ins C dx (putF "shape" (.ref ps) []))) p (.ins C dx (putF "kept" (.ref D) (putF "shape" (.ref ps) [])))) := (Kp.set hp3 (fun _ z => by cases z) (by simp)).trans (Kp.set upd_same (fun _ z => by cases z) (by simp))
      have hpsp : ps ≠ p := fun z => by rw [z, hp] at hps; cases hps
      have hDp : D ≠ p := fun z => by rw [z, hp3] at hkw; cases hkw
      exact k _ (by omega) (k3.zero.trans kp1) ⟨dx, D, kw, upd_same, (SA.kp (ms := [p]) (k3.zero.trans kp1) (by simpa using hpsp)), kp1.at_ _ _ hkw (by simpa using hDp), KV1.kp kp1⟩
theorem ok_rowsG {f fF C CS CN : Addr} {fd fdF : FuncData} (B : Bi mg) (F : Fun K "rows_of" "Store.rows_of" s_Store_rows_of f fd) (T : ShCls K mg CS) (U : StCls K mg C) (GF : FnOk P w K mg base (L2.CX P w) 3 fF fdF ["self", "name"] (spFields CS CN)) (bF : Binds K fdF ["self", "name"] []) (mF : Meth K CS "fields_of" fF) :
    FnOk P w K mg base (L2.CX P w) 4 f fd ["self", "name"] (spRowsG C CS CN) := by
  refine F.okX sc_Store_rows_of (fun vs H Q E h => ?_) (fun cdv A outer s H vs Q E hr h => ?_)
  · obtain ⟨p, ps, tbs, R, S, q, n, x, d, rfl, _⟩ := h; rfl
  · obtain ⟨p, ps, tbs, R, S, q, n, x, d, rfl, ⟨dx, kd, kvs, hp, SA, hkd, KV⟩, g, hx, k, kN⟩ := h
    have hu := hu_of hr
    refine ⟨_, (pss_cons (ps_expr (pe_meth (E := E) (pe_fld (pv 0) rfl) T.cl mF GF hr bF .nil (passes_call (takes_of rfl rfl rfl rfl) (fun _ _ _ _ h => h)) (pa_cons (pv 1) pa_nil)))
  (pss_one (ps_ret (pe_callTy call_list_of (by rfl) B.list (by decide +kernel) (pa_cons (pe_dget hu (pe_fld (pv 0) rfl) (pv 1) (fun _ _ => rfl)) pa_nil))))), ?_⟩
    obtain ⟨sx, sv, hps, hsv⟩ := id SA
    refine ⟨_, rfl, p, C, dx, _, .ref ps, rfl, hp, U.cl, U.nS, rfl, ps, sx, _, rfl, hps, rfl, _, rfl, ?_⟩
    refine ⟨ps, S, q, n, x, d, tbs, rfl, SA, g.2.1, hx, fun t' ht' e a ia => ?_, fun hno dd H' k1 hdd e1 => kN hno dd H' k1 e1⟩
    obtain ⟨i, ht⟩ := List.mem_iff_getElem?.mp ht'
    subst e
    obtain ⟨r, hr1⟩ := KV.nth ht
    cases hx with
    | str _ hxl =>
    obtain ⟨v, r', hv, hr2, iv⟩ := KV.val g.2.1 ht
    rw [hr1] at hr2
    cases hr2
    obtain ⟨a2, xs, rfl, ha2, ix, _, _⟩ := iv.rows
    refine ⟨_, rfl, p, C, dx, _, .ref kd, rfl, hp, U.cl, U.nK, rfl, _, rfl, kd, .ref a2, rfl, .inl ⟨kvs, .inr t'.1, .inl hkd, rfl, hv.symm⟩, a2, xs, rfl, .inr (.inl (.inl ha2)), fun l hl => ?_⟩
    exact k i t' r ht hr1 rfl l xs _ (Kp.new hl) hl upd_same (ImAll.kp (ms := []) (Kp.new hl) ix)
theorem ok_withG {f fF fI C CS CN CE CM : Addr} {fd fdF fdI : FuncData} (B : Bi mg) (F : Fun K "with_row" "Store.with_row" s_Store_with_row f fd) (T : ShCls K mg CS) (U : StCls K mg C) (ER : ∀ base, Err P w K mg base "BadRows" "value" CE) (M : Mk K C fI)
    (GF : FnOk P w K mg base (L2.CX P w) 3 fF fdF ["self", "name"] (spFields CS CN)) (bF : Binds K fdF ["self", "name"] []) (mF : Meth K CS "fields_of" fF) (GI : FnOk P w K mg base (L2.CX P w) 5 fI fdI ["self", "shape", "rows"] (spStoreT C CS CM)) (bI : Binds K fdI ["self", "shape", "rows"] [])
    (G_are_values : Has P w K mg base CX0 "are_values" ["thing", "many"] 3 spAreVals) : FnOk P w K mg base (L2.CX P w) 7 f fd ["self", "name", "row"] (spWithG C CS CN CE CM) := by
  refine F.okX sc_Store_with_row (fun vs H Q E h => ?_) (fun cdv A outer s H vs Q E hr h => ?_)
  · obtain ⟨p, ps, tbs, R, S, S', q, q', n, n', x, y, d, e, rfl, _⟩ := h; rfl
  · obtain ⟨p, ps, tbs, R, S, S', q, q', n, n', x, y, d, e, rfl, ⟨dx, kd, kvs, hp, SA, hkd, KV⟩, g, gr, tot, hx, hy, kk, kN⟩ := h
    have hu := hu_of hr
    have hr3 : Room 3 _ := hr.mono (by decide)
    have ER := ER base
    refine ⟨_, (pss_cons (ps_set (i := 3) sc_Store_with_row.nd rfl (by first | exact Or.inl rfl | exact Or.inr rfl) (pe_meth (E := E) (pe_fld (pv 0) rfl) T.cl mF GF hr3 bF .nil (passes_call (takes_of rfl rfl rfl rfl) (fun _ _ _ _ h => h)) (pa_cons (pv 1) pa_nil)))
  (pss_cons (ps_if (pt_not (pt_val (pe_has G_are_values hr3 (pa_cons (pv 2) (pa_cons (pe_callB call_len (by rfl) B.len PySem.boot_len (pa_cons (pv 3) pa_nil)) pa_nil)))))
  (pss_one (ps_raiseE rfl ER hr (by decide) (takes_of rfl rfl rfl rfl) (pa_cons (pe_tup (pa_cons (pv 1) (pa_cons (pe_callB call_len (by rfl) B.len PySem.boot_len (pa_cons (pe_dget hu (pe_fld (pv 0) rfl) (pv 1) (fun _ _ => rfl)) pa_nil)) pa_nil))) pa_nil)))
  pss_nil)
  (pss_cons (ps_set (i := 4) sc_Store_with_row.nd rfl (by first | exact Or.inl rfl | exact Or.inr rfl) (pe_callTy call_dictD (by rfl) B.dict (by decide +kernel) (pa_cons (pe_fld (pv 0) rfl) pa_nil)))
  (pss_cons (ps_dput hu (pv 4) (pv 1) (pe_op op_catA (pe_dget hu (pe_fld (pv 0) rfl) (pv 1) (fun _ _ => rfl)) (pe_tup (pa_cons (pe_callTy (r := rTupO K) call_tuple_of (by rfl) B.tuple (by decide +kernel) (pa_cons (pv 2) pa_nil)) pa_nil))) rfl)
  (pss_one (ps_ret (pe_make (E := E) M GI hr rfl U.mgC bI .nil (passes_call (takes_of rfl rfl rfl rfl) (fun _ _ _ _ h => h)) (pa_cons (pe_fld (pv 0) rfl) (pa_cons (pv 4) pa_nil))))))))), ?_⟩
    obtain ⟨sx, sv, hps, hsv⟩ := id SA
    refine ⟨_, rfl, p, C, dx, _, .ref ps, rfl, hp, U.cl, U.nS, rfl, ps, sx, _, rfl, hps, rfl, _, rfl, ?_⟩
    refine ⟨ps, S', q', n', y, e, tbs, rfl, SA, g.2.1, hy, fun t' ht' e' a ia => ?_, fun hno dd H' k1 hdd e1 => kN hno dd H' k1 e1⟩
    obtain ⟨i, ht⟩ := List.mem_iff_getElem?.mp ht'
    subst e'
    obtain ⟨r, hr1⟩ := KV.nth ht
    obtain ⟨kQ, kM, kE⟩ := kk i t' r ht hr1 rfl
    cases hy with
    | str _ hyl =>
    have gt := g.1 t' ht'
    obtain ⟨v, r', hv, hr2, iv⟩ := KV.val g.2.1 ht
    rw [hr1] at hr2
    cases hr2
    obtain ⟨a2, xs, rfl, ha2, ix, lxr, lx1⟩ := iv.rows
    have ha : H a = some (.tup (t'.2.map V.str)) := by
      cases ia with
      | tup q l y => rw [q, y.strs]
    refine ⟨_, rfl, _, rfl, _, _, rfl, .inr ⟨_, .inl (.inl ha), rfl⟩, S, q, n, x, d, _, rfl, hx, fun H1 k1 => ⟨_, rfl, ?_⟩⟩
    rw [List.length_map]
    have hp1 := k1.at_ _ _ hp (fun z => nomatch z)
    have hkd1 := k1.at_ _ _ hkd (fun z => nomatch z)
    by_cases hV : ∃ ns, ValsD t'.2.length d ns
    · rw [bP_t hV]
      obtain ⟨ns, hns⟩ := hV
      refine iteF ?_
      refine ⟨_, rfl, p, C, dx, _, .ref kd, rfl, hp1, U.cl, U.nK, rfl, kd, kvs, rfl, .inl hkd1, fun rd hrd => ?_⟩
      have k2 := k1.snoc (o := .dK kvs) hrd
      have hp2 := k2.at_ _ _ hp (fun z => nomatch z)
      have hkd2 := k2.at_ _ _ hkd (fun z => nomatch z)
      refine ⟨_, rfl, p, C, dx, _, .ref kd, rfl, hp2, U.cl, U.nK, rfl, _, rfl, kd, .ref a2, rfl, .inl ⟨kvs, .inr t'.1, .inl hkd2, rfl, hv.symm⟩, ?_⟩
      obtain ⟨c1, rfl, rc⟩ := row_v (hx.keep k2) hns
      refine ⟨_, rfl, ?_⟩
      dsimp only [tNil]
      refine tupO_in rc fun l H3 k3 h3 => ⟨by show 1 ≤ sizeLine; decide, fun u hu2 => ?_⟩
      have k4 := (k2.trans k3).snoc (o := .tup [.ref l]) hu2
      have h4 := (Kp.new (ms := []) (o := .tup [.ref l]) hu2).tp _ _ h3
      refine catA_in (k4.tp _ _ ha2) upd_same (by show _ + 1 ≤ 16777216; omega) fun y H5 k5 h5 => ?_
      have k6 := k4.trans k5
      have hrd5 : H5 rd = some (.dK kvs) := (((k3.snoc (o := .tup [.ref l]) hu2).trans k5).at_ _ _ upd_same (fun z => nomatch z))
      have hlk : kvs.length ≤ 5 := by rw [KV.len]; exact g.2.2.2
      refine ⟨_, rfl, _, rfl, rd, _, rfl, .inl ⟨kvs, .inr t'.1, hrd5, rfl, by show _ < 16777216; omega, rfl⟩, ?_⟩
      have hrdH : H rd = none := k1.same.free hrd
      have kr : Kp [rd] H5 (upd H5 rd (.dK (putK kvs (.inr t'.1) (.ref y)))) := Kp.set hrd5 (fun _ z => by cases z) (by simp)
      have k7 := k6.late (o := .dK (putK kvs (.inr t'.1) (.ref y))) hrdH
      have hp7 := k7.at_ _ _ hp (fun z => nomatch z)
      refine ⟨_, rfl, p, C, dx, _, .ref ps, rfl, hp7, U.cl, U.nS, rfl, _, rfl, fun z dz hz hdz hne => ?_⟩
      have k8 := (k7.snoc (o := .own z) hdz).snoc (o := .ins C dz []) (by rw [upd_ne (Ne.symm hne)]; exact hz)
      have gr' := gr.set ht (r' := r ++ [ns]) fun x' hx' => by
        rcases List.mem_append.mp hx' with h | h
        · exact gr.2 i t' r ht hr1 x' h
        · rw [List.mem_singleton.mp h]; exact hns.2
      have h57 := kr.tp _ _ h5
      have k78 : Kp [] (upd H5 rd (.dK (putK kvs (.inr t'.1) (.ref y)))) (upd (upd (upd H5 rd (.dK (putK kvs (.inr t'.1) (.ref y)))) dz (.own z)) z (.ins C dz [])) := (Kp.new hdz).snoc (by rw [upd_ne (Ne.symm hne)]; exact hz)
      have im8 : Im (upd (upd (upd H5 rd (.dK (putK kvs (.inr t'.1) (.ref y)))) dz (.own z)) z (.ins C dz [])) 2 (.ref y) (dRows (r ++ [ns])) := by
        have e8 := k78.tp _ _ h57
        refine .tup e8 ⟨by rw [List.length_append, lxr]; simp only [List.length_cons, List.length_nil]; have := total_ge hr1; omega, ⟨_, e8⟩⟩ ?_
        rw [List.map_append]
        have l8 := k78.tp _ _ (kr.tp _ _ (k5.tp _ _ h4))
        exact (ImAll.kp k8 ix).append (.cons (.tup l8 ⟨by rw [List.length_map]; have := hns.2.1; have := gt.2.2.2.2; omega, ⟨_, l8⟩⟩ (dtAll_ints ns)) .nil)
      have hd8 := k78.at_ _ _ (upd_same (H := H5) (a := rd) (o := .dK (putK kvs (.inr t'.1) (.ref y)))) (fun z => nomatch z)
      have tot' := total_set (r' := r ++ [ns]) hr1
      rw [List.length_append, List.length_cons, List.length_nil] at tot'
      refine ⟨z, dz, ps, rd, tbs, R.set i (r ++ [ns]), rfl, upd_same, SA.kp k8 (fun z => nomatch z), g, (KV.kp k8).put g ht hd8 im8 gr', by omega, fun H9 t9 k9 st9 => ⟨rfl, ?_⟩, fun H9 t9 k9 => kM ns H9 hns (by omega) (k8.trans k9)⟩
      have hzH := k7.same.free hz
      exact kQ ns z H9 hns (by omega) (k8.via k9 fun x hx => .inr (by rw [List.mem_singleton.mp hx]; exact hzH)) hzH st9
    · rw [bP_f hV]
      refine iteT ?_
      refine ⟨_, rfl, _, rfl, p, C, dx, _, .ref kd, rfl, hp1, U.cl, U.nK, rfl, _, rfl, kd, .ref a2, rfl, .inl ⟨kvs, .inr t'.1, .inl hkd1, rfl, hv.symm⟩, _, _, rfl, .inr ⟨xs, .inl (.inl (k1.tp _ _ ha2)), rfl⟩, by show 2 ≤ sizeLine; decide, fun u hu2 => ?_⟩
      refine ⟨by simp, fun b hb => err_in hb fun dd hdd => ?_⟩
      have k2 := k1.snoc (o := .tup [.str t'.1, .int (xs.length : Nat)]) hu2
      refine kE hV u dd _ (k2.snoc hdd) ?_ upd_same
      rw [← lxr]
      exact (Kp.new (ms := []) hdd).tp _ _ upd_same
theorem ok_woG {f fF fI C CS CN CE CM : Addr} {fd fdF fdI : FuncData} (B : Bi mg) (F : Fun K "without_row" "Store.without_row" s_Store_without_row f fd) (T : ShCls K mg CS) (U : StCls K mg C) (ER : ∀ base, Err P w K mg base "BadIndex" "value" CE) (M : Mk K C fI)
    (GF : FnOk P w K mg base (L2.CX P w) 3 fF fdF ["self", "name"] (spFields CS CN)) (bF : Binds K fdF ["self", "name"] []) (mF : Meth K CS "fields_of" fF) (GI : FnOk P w K mg base (L2.CX P w) 5 fI fdI ["self", "shape", "rows"] (spStoreT C CS CM)) (bI : Binds K fdI ["self", "shape", "rows"] [])
    (G_is_integer : Has P w K mg base CX0 "is_integer" ["thing"] 1 spInt) : FnOk P w K mg base (L2.CX P w) 7 f fd ["self", "name", "at"] (spWoG C CS CN CE) := by
  refine F.okX sc_Store_without_row (fun vs H Q E h => ?_) (fun cdv A outer s H vs Q E hr h => ?_)
  · obtain ⟨p, ps, tbs, R, S, S', q, q', n, n', x, y, d, e, rfl, _⟩ := h; rfl
  · obtain ⟨p, ps, tbs, R, S, S', q, q', n, n', x, y, d, e, rfl, ⟨dx, kd, kvs, hp, SA, hkd, KV⟩, g, gr, tot, hx, hy, kk, kN⟩ := h
    have hu := hu_of hr
    have hr3 : Room 3 _ := hr.mono (by decide)
    have hr1' : Room 1 _ := hr.mono (by decide)
    have ER := ER base
    refine ⟨_, (pss_cons (ps_expr (pe_meth (E := E) (pe_fld (pv 0) rfl) T.cl mF GF hr3 bF .nil (passes_call (takes_of rfl rfl rfl rfl) (fun _ _ _ _ h => h)) (pa_cons (pv 1) pa_nil)))
  (pss_cons (ps_if (PW.pt (pw_or (pt_not (pt_val (pe_has G_is_integer hr1' (pa_cons (pv 2) pa_nil)))) (pw_or1 (pt_not (pt_chain op_le op_lt pe_int (pv 2) (pe_callB call_len (by rfl) B.len PySem.boot_len (pa_cons (pe_dget hu (pe_fld (pv 0) rfl) (pv 1) (fun _ _ => rfl)) pa_nil)))))))
  (pss_one (ps_raiseE rfl ER hr (by decide) (takes_of rfl rfl rfl rfl) (pa_cons (pv 2) pa_nil)))
  pss_nil)
  (pss_cons (ps_set (i := 3) sc_Store_without_row.nd rfl (by first | exact Or.inl rfl | exact Or.inr rfl) (pe_callTy call_dictD (by rfl) B.dict (by decide +kernel) (pa_cons (pe_fld (pv 0) rfl) pa_nil)))
  (pss_cons (ps_dput hu (pv 3) (pv 1) (pe_op op_catA (pe_slice sl_tupA (pe_dget hu (pe_fld (pv 0) rfl) (pv 1) (fun _ _ => rfl)) po_none (po_some (pv 2))) (pe_slice sl_tupA (pe_dget hu (pe_fld (pv 0) rfl) (pv 1) (fun _ _ => rfl)) (po_some (pe_op op_add (pv 2) pe_int)) po_none)) rfl)
  (pss_one (ps_ret (pe_make (E := E) M GI hr rfl U.mgC bI .nil (passes_call (takes_of rfl rfl rfl rfl) (fun _ _ _ _ h => h)) (pa_cons (pe_fld (pv 0) rfl) (pa_cons (pv 3) pa_nil))))))))), ?_⟩
    obtain ⟨sx, sv, hps, hsv⟩ := id SA
    refine ⟨_, rfl, p, C, dx, _, .ref ps, rfl, hp, U.cl, U.nS, rfl, ps, sx, _, rfl, hps, rfl, _, rfl, ?_⟩
    refine ⟨ps, S', q', n', y, e, tbs, rfl, SA, g.2.1, hy, fun t ht' e' a ia => ?_, fun hno dd H' k1 hdd e1 => kN hno dd H' k1 e1⟩
    obtain ⟨i, ht⟩ := List.mem_iff_getElem?.mp ht'
    subst e'
    obtain ⟨r, hr1⟩ := KV.nth ht
    obtain ⟨kQ, kE⟩ := kk i t r ht hr1 rfl
    cases hy with
    | str _ hyl =>
    have gt := g.1 t ht'
    obtain ⟨v, r', hv, hr2, iv⟩ := KV.val g.2.1 ht
    rw [hr1] at hr2
    cases hr2
    obtain ⟨a2, xs, rfl, ha2, ix, lxr, lx1⟩ := iv.rows
    have bad : (¬ ∃ j : Nat, d = .int (j : Int) ∧ j < r.length) → ∀ (b : Addr), H b = none → ∀ dd, H dd = none → E (.ref CE) (some dd) (upd H dd (.xd [("value", x)])) := fun hno b hb dd hdd => kE hno dd _ (Kp.new hdd) upd_same
    refine ⟨_, rfl, S, q, n, x, d, rfl, hx, _, rfl, ?_⟩
    cases hi : (isI d && !isB d) with
    | false =>
      refine iteT (iteT ⟨_, rfl, by simp, fun b hb => err_in hb fun dd hdd => bad ?_ b hb dd hdd⟩)
      rintro ⟨j, rfl, _⟩
      cases hi
    | true =>
      refine iteF ?_
      cases hx with
      | int m =>
        refine ⟨_, rfl, _, _, rfl, rfl, _, rfl, ?_⟩
        refine ite2 (fun h0 => ?_) (fun h0 => ?_)
        · have h0 := of_decide_eq_true h0
          obtain ⟨j, rfl⟩ := Int.eq_ofNat_of_zero_le h0
          refine ⟨_, rfl, p, C, dx, _, .ref kd, rfl, hp, U.cl, U.nK, rfl, _, rfl, kd, .ref a2, rfl, .inl ⟨kvs, .inr t.1, .inl hkd, rfl, hv.symm⟩, _, _, rfl, .inr ⟨xs, .inl (.inl ha2), rfl⟩, _, _, rfl, rfl, _, rfl, ?_⟩
          by_cases hj : j < r.length
          · rw [decide_eq_true (show ((j : Nat) : Int) < ((xs.length : Nat) : Int) by omega)]
            refine iteF ?_
            refine ⟨_, rfl, p, C, dx, _, .ref kd, rfl, hp, U.cl, U.nK, rfl, kd, kvs, rfl, .inl hkd, fun rd hrd => ?_⟩
            have k2 : Kp [] H (upd H rd (.dK kvs)) := Kp.new hrd
            have hp2 := k2.at_ _ _ hp (fun z => nomatch z)
            have hkd2 := k2.at_ _ _ hkd (fun z => nomatch z)
            refine ⟨_, rfl, p, C, dx, _, .ref kd, rfl, hp2, U.cl, U.nK, rfl, _, rfl, kd, .ref a2, rfl, .inl ⟨kvs, .inr t.1, .inl hkd2, rfl, hv.symm⟩, _, rfl, _, rfl, ?_⟩
            refine slA_in (k2.tp _ _ ha2) fun y1 H3 k3 h3 => ?_
            have k23 := k2.trans k3
            have hp3 := k23.at_ _ _ hp (fun z => nomatch z)
            have hkd3 := k23.at_ _ _ hkd (fun z => nomatch z)
            refine ⟨_, rfl, p, C, dx, _, .ref kd, rfl, hp3, U.cl, U.nK, rfl, _, rfl, kd, .ref a2, rfl, .inl ⟨kvs, .inr t.1, .inl hkd3, rfl, hv.symm⟩, _, rfl, _, _, rfl, rfl, _, rfl, ?_⟩
            dsimp only [tNoPart]
            refine slA_in (k23.tp _ _ ha2) fun y2 H4 k4 h4 => ?_
            rw [cut_take (by omega)] at h3
            rw [show ((j : Nat) : Int) + 1 = ((j + 1 : Nat) : Int) from rfl, cutN_drop (by omega)] at h4
            refine catA_in (k4.tp _ _ h3) h4 (by rw [List.length_take, List.length_drop]; show _ ≤ 16777216; omega) fun y H5 k5 h5 => ?_
            have k6 := (k23.trans k4).trans k5
            have hrd5 : H5 rd = some (.dK kvs) := ((k3.trans k4).trans k5).at_ _ _ upd_same (fun z => nomatch z)
            have hlk : kvs.length ≤ 5 := by rw [KV.len]; exact g.2.2.2
            refine ⟨_, rfl, _, rfl, rd, _, rfl, .inl ⟨kvs, .inr t.1, hrd5, rfl, by show _ < 16777216; omega, rfl⟩, ?_⟩
            have kr : Kp [rd] H5 (upd H5 rd (.dK (putK kvs (.inr t.1) (.ref y)))) := Kp.set hrd5 (fun _ z => by cases z) (by simp)
            have k7 := k6.late (o := .dK (putK kvs (.inr t.1) (.ref y))) hrd
            have hp7 := k7.at_ _ _ hp (fun z => nomatch z)
            refine ⟨_, rfl, p, C, dx, _, .ref ps, rfl, hp7, U.cl, U.nS, rfl, _, rfl, fun z dz hz hdz hne => ?_⟩
            have k8 := (k7.snoc (o := .own z) hdz).snoc (o := .ins C dz []) (by rw [upd_ne (Ne.symm hne)]; exact hz)
            have gr' := gr.set ht (r' := r.take j ++ r.drop (j + 1)) fun x' hx' => by
              rcases List.mem_append.mp hx' with h | h
              · exact gr.2 i t r ht hr1 x' (List.mem_of_mem_take h)
              · exact gr.2 i t r ht hr1 x' (List.mem_of_mem_drop h)
            have k78 : Kp [] (upd H5 rd (.dK (putK kvs (.inr t.1) (.ref y)))) (upd (upd (upd H5 rd (.dK (putK kvs (.inr t.1) (.ref y)))) dz (.own z)) z (.ins C dz [])) := (Kp.new hdz).snoc (by rw [upd_ne (Ne.symm hne)]; exact hz)
            have e8 := k78.tp _ _ (kr.tp _ _ h5)
            have ix8 := ImAll.kp k8 ix
            have im8 : Im (upd (upd (upd H5 rd (.dK (putK kvs (.inr t.1) (.ref y)))) dz (.own z)) z (.ins C dz [])) 2 (.ref y) (dRows (r.take j ++ r.drop (j + 1))) := by
              refine .tup e8 ⟨by rw [List.length_append, List.length_take, List.length_drop]; omega, ⟨_, e8⟩⟩ ?_
              rw [List.map_append, List.map_take, List.map_drop]
              exact (ix8.take j).append (ix8.dropd (j + 1))
            have hd8 := k78.at_ _ _ (upd_same (H := H5) (a := rd) (o := .dK (putK kvs (.inr t.1) (.ref y)))) (fun z => nomatch z)
            have tot' := total_set (r' := r.take j ++ r.drop (j + 1)) hr1
            rw [List.length_append, List.length_take, List.length_drop] at tot'
            refine ⟨z, dz, ps, rd, tbs, R.set i (r.take j ++ r.drop (j + 1)), rfl, upd_same, SA.kp k8 (fun z => nomatch z), g, (KV.kp k8).put g ht hd8 im8 gr', by omega, fun H9 t9 k9 st9 => ⟨rfl, ?_⟩, fun H9 t9 k9 => absurd t9 (by omega)⟩
            have hzH := k7.same.free hz
            exact kQ j z H9 rfl hj (k8.via k9 fun x hx => .inr (by rw [List.mem_singleton.mp hx]; exact hzH)) hzH st9
          · rw [decide_eq_false (show ¬ ((j : Nat) : Int) < ((xs.length : Nat) : Int) by omega)]
            refine iteT ⟨_, rfl, by simp, fun b hb => err_in hb fun dd hdd => bad ?_ b hb dd hdd⟩
            rintro ⟨j', e, hj'⟩
            injection e with e
            omega
        · have h0 : ¬ (0 ≤ m) := fun h => h0 (decide_eq_true h)
          refine ⟨_, rfl, iteT ⟨_, rfl, by simp, fun b hb => err_in hb fun dd hdd => bad ?_ b hb dd hdd⟩⟩
          rintro ⟨j', e, hj'⟩
          injection e with e
          omega
      | _ => cases hi
end
end Fm

namespace Fm
open PySem PySem.Spec PyProof.Rows L2
/-! ### wrong rows: check_rows and Store.__init__ raise BadRows -/
/-- the rows of the table t are wrong at k first -/
def BadTab (H : Hp) (kvs : List (Key × V)) (t : Str × List Str) (k : Nat) : Prop := ∃ (n : Nat) (v : V) (e : PyData) (es : List PyData) (x : PyData), valV kvs (.inr t.1) = some v ∧ Dt (fun _ => True) false H n v e ∧ RowD e es ∧ es[k]? = some x ∧
  (∀ (i : Nat) y, i < k → es[i]? = some y → ∃ ns, ValsD t.2.length y ns) ∧ ¬ ∃ ns, ValsD t.2.length x ns
theorem BadTab.keep {H H' : Hp} {kvs : List (Key × V)} {t : Str × List Str} {k : Nat} (h : BadTab H kvs t k) (kp : Kp [] H H') : BadTab H' kvs t k := by
  obtain ⟨n, v, e, es, x, h1, h2, h3⟩ := h
  exact ⟨n, v, e, es, x, h1, h2.keep kp, h3⟩
/-- what is wrong with a dict of rows: a key that is no table, or a row; the error's name and index -/
def BadRw (H : Hp) (kvs : List (Key × V)) (tbs : List (Str × List Str)) (nv : V) (i : Int) : Prop :=
  ((∃ kv ∈ kvs, ∀ t ∈ tbs, kv.1 ≠ .inr t.1) ∧ nv = .non ∧ i = -1) ∨
  ((∀ kv ∈ kvs, ∃ t ∈ tbs, kv.1 = .inr t.1) ∧ ∃ (j k : Nat) (t : Str × List Str) (R' : List (List (List Int))), tbs[j]? = some t ∧ InAll H kvs (tbs.take j) R' ∧ BadTab H kvs t k ∧ nv = .str t.1 ∧ i = k)
def spCheckB (CS CE : Addr) : Sp := fun vs H _ E => ∃ (ps d : Addr) (tbs : List (Str × List Str)) (kvs : List (Key × V)) (nv : V) (i : Int), vs = [.ref ps, .ref d] ∧ ShapeAt CS H ps tbs ∧ GoodTs tbs ∧ H d = some (.dK kvs) ∧ kvs.length ≤ 1000 ∧ (∀ kv ∈ kvs, ∃ z, kv.1 = .inr z) ∧ BadRw H kvs tbs nv i ∧
  ∀ (u dd : Addr) (H' : Hp), Kp [] H H' → H' u = some (.tup [nv, .int i]) → H' dd = some (.xd [("value", .ref u)]) → E (.ref CE) (some dd) H'
section
variable {P : Program} {w : World} {K : PySem.W.Frag} {mg : Str → Option Value} {base : Heap}
theorem ok_checkB {CS CE : Addr} (B : Bi mg) (D : Dfn K mg "check_rows" s_check_rows ["shape", "rows"]) (T : ShCls K mg CS) (ER : ∀ base, Err P w K mg base "BadRows" "value" CE) (G_is_row : Has P w K mg base CX0 "is_row" ["thing"] 1 spIsRow) (G_are_values : Has P w K mg base CX0 "are_values" ["thing", "many"] 3 spAreVals) :
    Has P w K mg base (L2.CX P w) "check_rows" ["shape", "rows"] 4 (spCheckB CS CE) := by
  refine D.hasX sc_check_rows (fun vs H Q E h => ?_) (fun f cdv A outer s H vs Q E hr h => ?_)
  · obtain ⟨ps, d, tbs, kvs, nv, i, rfl, _⟩ := h; rfl
  · obtain ⟨ps, d, tbs, kvs, nv, i0, rfl, SA, g, hd, lk, hstr, BR, kE⟩ := h
    have hu := hu_of hr
    have ER := ER base
    refine ⟨_, (pss_cons (ps_if (pt_not (pt_val (pe_callB call_isi (by rfl) B.isinstance (by decide +kernel) (pa_cons (pv 1) (pa_cons (pe_bltn (v := .ty "dict") (by rfl) B.dict (by decide +kernel) rfl) pa_nil)))))
  (pss_one (ps_raiseE rfl ER hr (by decide) (takes_of rfl rfl rfl rfl) (pa_cons (pe_tup (pa_cons pe_non (pa_cons (pe_un un_neg pe_int) pa_nil))) pa_nil)))
  pss_nil)
  (pss_cons (ps_setLc (i := 2) (own := [("name", 4), ("fields", 5)]) (g := gTup K 2 (gCons (gName 4) (gCons (gName 5) gNil))) (by rfl) sc_check_rows.nd rfl rfl (sw_true rfl rfl rfl (by decide +kernel)) (pi_tup (pe_fld (pv 0) rfl)) (blkOk_by (own := [("name", 4), ("fields", 5)]) (N := N_check_rows) (sc := defScope s_check_rows) (by decide +kernel)) (fun _ _ _ _ _ => (pg_tup rfl (pgs_cons (pg_name (i := 4) sc_check_rows.nd rfl (by first | exact Or.inl rfl | exact Or.inr rfl)) (pgs_cons (pg_name (i := 5) sc_check_rows.nd rfl (by first | exact Or.inl rfl | exact Or.inr rfl)) pgs_nil)))) (fun _ _ _ _ _ => pts_nil) (fun _ _ _ _ _ => (pv 4)))
  (pss_cons (ps_for (passes_of rfl) rfl (pi_list (pe_callTy (call_listD rfl) (by rfl) B.list (by decide +kernel) (pa_cons (pv 1) pa_nil))) (pg_name (i := 3) sc_check_rows.nd rfl (by first | exact Or.inl rfl | exact Or.inr rfl))
  (pss_one (ps_if (PW.pt (pw_or (pt_not (pt_val (pe_callB call_isi (by rfl) B.isinstance (by decide +kernel) (pa_cons (pv 3) (pa_cons (pe_bltn (v := .ty "str") (by rfl) B.str (by decide +kernel) rfl) pa_nil))))) (pw_or1 (pt_cmpR op_notIn_seq (pv 3) (pv 2) (by rfl)))))
  (pss_one (ps_raiseE rfl ER hr (by decide) (takes_of rfl rfl rfl rfl) (pa_cons (pe_tup (pa_cons pe_non (pa_cons (pe_un un_neg pe_int) pa_nil))) pa_nil)))
  pss_nil)))
  (pss_one (ps_for (passes_of rfl) rfl (pi_tup (pe_fld (pv 0) rfl)) (pg_tup rfl (pgs_cons (pg_name (i := 4) sc_check_rows.nd rfl (by first | exact Or.inl rfl | exact Or.inr rfl)) (pgs_cons (pg_name (i := 5) sc_check_rows.nd rfl (by first | exact Or.inl rfl | exact Or.inr rfl)) pgs_nil)))
  (pss_one (ps_if (pt_cmp (pc_din hu (pv 4) (pv 1)) rfl)
  (pss_cons (ps_if (pt_not (pt_val (pe_has G_is_row (hr.mono (by omega)) (pa_cons (pe_dget hu (pv 1) (pv 4) (fun _ _ => rfl)) pa_nil))))
  (pss_one (ps_raiseE rfl ER hr (by decide) (takes_of rfl rfl rfl rfl) (pa_cons (pe_tup (pa_cons (pv 4) (pa_cons (pe_un un_neg pe_int) pa_nil))) pa_nil)))
  pss_nil)
  (pss_one (ps_for (passes_of rfl) rfl (pi_or (pi_enum (by rfl) B.enumerate (pa_cons (pe_dget hu (pv 1) (pv 4) (fun _ _ => rfl)) pa_nil)) (pi_enumT (by rfl) B.enumerate (pa_cons (pe_dget hu (pv 1) (pv 4) (fun _ _ => rfl)) pa_nil))) (pg_tup rfl (pgs_cons (pg_name (i := 6) sc_check_rows.nd rfl (by first | exact Or.inl rfl | exact Or.inr rfl)) (pgs_cons (pg_name (i := 7) sc_check_rows.nd rfl (by first | exact Or.inl rfl | exact Or.inr rfl)) pgs_nil)))
  (pss_one (ps_if (pt_not (pt_val (pe_has G_are_values (hr.mono (by omega)) (pa_cons (pv 7) (pa_cons (pe_callB call_len (by rfl) B.len PySem.boot_len (pa_cons (pv 5) pa_nil)) pa_nil)))))
  (pss_one (ps_raiseE rfl ER hr (by decide) (takes_of rfl rfl rfl rfl) (pa_cons (pe_tup (pa_cons (pv 4) (pa_cons (pv 6) pa_nil))) pa_nil)))
  pss_nil)))))
  pss_nil))))))), ?_⟩
    obtain ⟨dx, ta, xs, hps, hta, ix⟩ := SA.rows
    have el : xs.length = tbs.length := by rw [ix.len, List.length_map]
    refine ⟨_, rfl, _, _, _, _, _, rfl, .ty _, .base (.dK hd), kit_ty rfl, _, rfl, iteF ?_⟩
    refine ⟨_, rfl, ps, CS, dx, _, .ref ta, rfl, hps, T.cl, T.nT, rfl, ta, rfl, ⟨_, .inl (.inl hta)⟩, fun D hD => ?_⟩
    refine lc_it (walk_tup (xs := xs)) (fun i H' => H' D = some (.lst (((tbs.take i).map (·.1)).map V.str)) ∧ Kp [] H H') ⟨upd_same, Kp.new hD⟩ (fun i H2 _ h => .inl (.inl (h.2.tp _ _ hta))) ?_ ?_
    · rintro i u H2 H3 hi ⟨h2, k2⟩ ⟨rfl, hu1⟩
      obtain ⟨a', b', t, rfl, ht, e1, e2⟩ := tab_at ix k2 hu1
      refine ⟨a', _, rfl, SqT.of e1, rfl, _, _, rfl, _, _, rfl, rfl, rfl, _, rfl, _, h2, ?_, ?_, k2.late hD⟩
      · rw [List.length_map, List.length_map, List.length_take]
        have := g.2.2.2
        show _ < 16777216
        omega
      · rw [take_snoc ht, List.map_append, List.map_append]; exact upd_same
    rintro H2 ⟨h2, k2⟩
    rw [el, List.take_length] at h2
    refine ⟨_, rfl, d, kvs, rfl, .inl (k2.at_ _ _ hd (fun z => nomatch z)), fun L hL => ⟨L, rfl, ⟨_, SqL.of upd_same⟩, ?_⟩⟩
    refine for_it (walk_list (xs := kvs.map fun kv => kV kv.1)) (fun i σ H' => (∃ o, σ = [some (.ref ps), some (.ref d), some (.ref D), o, none, none, none, none]) ∧ Kp [] (upd H2 L (.lst (kvs.map fun kv => kV kv.1))) H' ∧ ∀ kv ∈ kvs.take i, ∃ t ∈ tbs, kv.1 = .inr t.1) ⟨⟨_, rfl⟩, Kp.refl _, (fun kv h => by cases h)⟩ (fun i σ H' _ h => SqL.of (h.2.1.at_ _ _ upd_same (fun z => nomatch z))) ?_ ?_
    · rintro i u σ H3 H4 hi ⟨⟨o, rfl⟩, k3, hk⟩ ⟨rfl, hu1⟩
      have k4 := (Kp.new (ms := []) hL).trans k3
      rw [List.getElem?_map] at hu1
      cases ek : kvs[i]? with
      | none => rw [ek] at hu1; cases hu1
      | some kv =>
        rw [ek] at hu1
        cases hu1
        obtain ⟨z, e⟩ := hstr kv (List.mem_of_getElem? ek)
        obtain ⟨k0, v0⟩ := kv
        obtain rfl : k0 = .inr z := e
        refine ⟨_, rfl, _, _, _, _, _, rfl, .ty _, .base (.str z), kit_ty (kb_str (.str z)), _, rfl, iteF ?_⟩
        refine ⟨_, rfl, _, rfl, D, _, rfl, .inl (SqL.of (k4.at_ _ _ h2 (fun z => nomatch z))), rfl, flat_strs _, _, rfl, ?_⟩
        by_cases hz : z ∈ tbs.map (·.1)
        · refine iteB (c := false) ?_ (iteF ⟨⟨_, rfl⟩, k3, fun kv hkv => ?_⟩)
          · show (!inV (V.str z) ((tbs.map (·.1)).map V.str)) = false
            rw [inV_strs, decide_eq_true hz]; rfl
          · rw [take_snoc ek] at hkv
            rcases List.mem_append.mp hkv with h | h
            · exact hk kv h
            · rw [List.mem_singleton.mp h]
              obtain ⟨t, ht, e⟩ := List.mem_map.mp hz
              exact ⟨t, ht, by rw [← e]⟩
        · refine iteB (c := true) ?_ (iteT ?_)
          · show (!inV (V.str z) ((tbs.map (·.1)).map V.str)) = true
            rw [inV_strs, decide_eq_false hz]; rfl
          refine ⟨_, rfl, by show 2 ≤ sizeLine; decide, fun u hu2 => ?_⟩
          refine ⟨by simp, fun b hb => err_in hb fun dd hdd => ?_⟩
          have kk := ((k2.trans k4).snoc (o := .tup [.non, .int (-1)]) hu2).snoc (o := .xd [("value", .ref u)]) hdd
          have e9 : nv = .non ∧ i0 = -1 := by
            rcases BR with ⟨_, h⟩ | ⟨h, _⟩
            · exact h
            · obtain ⟨t, ht, e⟩ := h _ (List.mem_of_getElem? ek)
              exact (hz (List.mem_map.mpr ⟨t, ht, (Sum.inr.inj e).symm⟩)).elim
          obtain ⟨rfl, rfl⟩ := e9
          exact kE u dd _ kk ((Kp.new (ms := []) hdd).tp _ _ upd_same) upd_same
    rintro σ H3 ⟨⟨o, rfl⟩, k3, hk⟩
    rw [List.length_map, List.take_length] at hk
    have k3 := (k2.trans (Kp.new hL)).trans k3
    rcases BR with ⟨⟨kv, hkv, hno⟩, _⟩ | ⟨_, j0, k0, t0, R', ht0, hin, BT, rfl, rfl⟩
    · obtain ⟨t, ht, e⟩ := hk kv hkv
      exact (hno t ht e).elim
    have hj0 : j0 < tbs.length := (List.getElem?_eq_some_iff.mp ht0).1
    refine ⟨_, rfl, ps, CS, dx, _, .ref ta, rfl, k3.at_ _ _ hps (fun z => nomatch z), T.cl, T.nT, rfl, ta, rfl, ⟨_, .inl (.inl (k3.tp _ _ hta))⟩, ?_⟩
    refine for_it (walk_tup (xs := xs)) (fun i σ H' => (∃ o3 o4 o5 o6 o7, σ = [some (.ref ps), some (.ref d), some (.ref D), o3, o4, o5, o6, o7]) ∧ Kp [] H H' ∧ i ≤ j0) ⟨⟨_, _, _, _, _, rfl⟩, k3, Nat.zero_le _⟩ (fun i σ H' _ h => .inl (.inl (h.2.1.tp _ _ hta))) ?_ ?_
    · rintro i u σ H3 H4 hi ⟨⟨o3, o4, o5, o6, o7, rfl⟩, k3, hij⟩ ⟨rfl, hu1⟩
      obtain ⟨a', b', t, rfl, ht, e1, e2⟩ := tab_at ix k3 hu1
      have hd3 := k3.at_ _ _ hd (fun z => nomatch z)
      refine ⟨a', _, rfl, SqT.of e1, rfl, _, _, rfl, _, _, rfl, rfl, ?_⟩
      refine ⟨_, rfl, _, rfl, d, _, rfl, .inl ⟨kvs, .inr t.1, .inl hd3, rfl, rfl⟩, _, rfl, ?_⟩
      -- the rows of this table: right up to kb, wrong there if this is the table
      have hT : (∃ v dd es, valV kvs (.inr t.1) = some v ∧ (∃ n, Dt (fun _ => True) false H4 n v dd) ∧ RowD dd es ∧ ((i < j0 ∧ ∀ (q : Nat) y, es[q]? = some y → ∃ ns, ValsD t.2.length y ns) ∨ (t = t0 ∧ ∃ x, es[k0]? = some x ∧ (∀ (q : Nat) y, q < k0 → es[q]? = some y → ∃ ns, ValsD t.2.length y ns) ∧ ¬ ∃ ns, ValsD t.2.length x ns))) ∨ (valV kvs (.inr t.1) = none ∧ i < j0) := by
        by_cases e : i = j0
        · subst e
          rw [ht] at ht0
          cases ht0
          obtain ⟨n, v, e, es, x, h1, h2, h3, h4, h5, h6⟩ := BT.keep k3
          exact .inl ⟨v, e, es, h1, ⟨n, h2⟩, h3, .inr ⟨rfl, x, h4, h5, h6⟩⟩
        · have hlt : i < j0 := by omega
          obtain ⟨r, hr1, hT⟩ := hin.get (show (tbs.take j0)[i]? = some t by rw [List.getElem?_take, if_pos hlt]; exact ht)
          rcases hT with ⟨v, hv, RV⟩ | ⟨hv, _⟩
          · obtain ⟨dd, es, dv, rr, VA⟩ := RV.keep k3
            exact .inl ⟨v, dd, es, hv, ⟨2, dv⟩, rr, .inl ⟨hlt, fun q y hy => let ⟨ns, _, h⟩ := VA.get hy; ⟨ns, h⟩⟩⟩
          · exact .inr ⟨hv, hlt⟩
      rcases hT with ⟨v, dd, es, hv, ⟨n, dv⟩, rr, hcase⟩ | ⟨hv, hlt⟩
      · rw [hv]
        refine iteT ?_
        have hdd : isRowD dd = true := by rcases rr with rfl | rfl <;> rfl
        refine ⟨_, rfl, _, rfl, d, v, rfl, .inl ⟨kvs, .inr t.1, .inl hd3, rfl, hv.symm⟩, _, false, n, v, dd, rfl, dv, fun H4 k4 => ⟨_, rfl, ?_⟩⟩
        rw [hdd]
        refine iteF ?_
        have hd4 := k4.at_ _ _ hd3 (fun z => nomatch z)
        obtain ⟨es', m2, a2, ys, rfl, hm2, ry, ly, _, ay, hds⟩ := (dv.keep k4).row hdd
        have e' : es' = es := by
          rcases hds with ⟨rfl, _⟩ | ⟨rfl, _⟩ <;> rcases rr with e | e <;> cases e <;> rfl
        subst e'
        obtain ⟨kb, F1, F2, F3, F4⟩ : ∃ kb, (∀ (q : Nat) y, q < kb → es'[q]? = some y → ∃ ns, ValsD t.2.length y ns) ∧ kb ≤ ys.length ∧ (kb < ys.length → (∃ x, es'[kb]? = some x ∧ ¬ ∃ ns, ValsD t.2.length x ns) ∧ t = t0 ∧ kb = k0) ∧ (kb = ys.length → i < j0) := by
          rcases hcase with ⟨h1, h2⟩ | ⟨h1, x, hx, h2, h3⟩
          · exact ⟨ys.length, fun q y _ hy => h2 q y hy, Nat.le_refl _, fun h => absurd h (Nat.lt_irrefl _), fun _ => h1⟩
          · have hl := (List.getElem?_eq_some_iff.mp hx).1
            have := ay.len
            exact ⟨k0, h2, by omega, fun _ => ⟨⟨x, hx, h3⟩, h1, rfl⟩, fun h => absurd h (by omega)⟩
        rcases hds with ⟨_, _, r2⟩ | ⟨_, _, r2⟩
        · refine .inl ⟨_, rfl, _, rfl, d, .ref a2, rfl, .inl ⟨kvs, .inr t.1, .inl hd4, rfl, hv.symm⟩, a2, ys, rfl, .inl r2, ?_⟩
          refine for_it (walk_enum (xs := ys)) (fun j σ H' => (∃ o6 o7, σ = [some (.ref ps), some (.ref d), some (.ref D), o3, some (.str t.1), some (.ref b'), o6, o7]) ∧ Kp [] H4 H' ∧ j ≤ kb) ⟨⟨_, _, rfl⟩, Kp.refl _, Nat.zero_le _⟩ (fun j σ H' _ h => .inl (h.2.1.rd (fun z => nomatch z) r2)) ?_ ?_
          · rintro j v' σ H6 H7 hj ⟨⟨o6, o7, rfl⟩, k6, hjk⟩ ⟨T, a1, y, rfl, hT, rfl, ea, ey⟩
            cases ea
            obtain ⟨e, he, dy⟩ := ay.getV ey
            have k7 := k6.snoc (o := .tup [.int (j : Nat), y]) hT
            refine ⟨T, _, rfl, SqT.of upd_same, rfl, _, _, rfl, _, _, rfl, rfl, ?_⟩
            refine ⟨_, rfl, _, rfl, _, _, rfl, .inr ⟨_, .inl (.inl ((k4.trans k7).tp _ _ e2)), rfl⟩, _, false, m2, y, e, _, rfl, dy.keep k7, fun H8 k8 => ⟨_, rfl, ?_⟩⟩
            rw [List.length_map]
            by_cases hlt : j < kb
            · rw [bP_t (F1 j e hlt he)]
              exact iteF ⟨⟨_, _, rfl⟩, k7.trans k8, by omega⟩
            · have ejk : j = kb := by omega
              subst ejk
              obtain ⟨⟨x, hx, hno⟩, rfl, rfl⟩ := F3 hj
              rw [he] at hx
              cases hx
              rw [bP_f hno]
              refine iteT ⟨_, rfl, _, rfl, by show 2 ≤ sizeLine; decide, fun u hu2 => ⟨by simp, fun b hb => err_in hb fun dd hdd => ?_⟩⟩
              exact kE u dd _ ((((k3.trans k4).trans (k7.trans k8)).snoc hu2).snoc hdd) ((Kp.new (ms := []) hdd).tp _ _ upd_same) upd_same
          · rintro σ H6 ⟨⟨o6, o7, rfl⟩, k6, hjk⟩
            exact ⟨⟨_, _, _, _, _, rfl⟩, (k3.trans k4).trans k6, F4 (by omega)⟩
        · refine .inr ⟨_, rfl, _, rfl, d, .ref a2, rfl, .inl ⟨kvs, .inr t.1, .inl hd4, rfl, hv.symm⟩, a2, ys, rfl, .inl (.inl r2), ?_⟩
          refine for_it (walk_enumT (xs := ys)) (fun j σ H' => (∃ o6 o7, σ = [some (.ref ps), some (.ref d), some (.ref D), o3, some (.str t.1), some (.ref b'), o6, o7]) ∧ Kp [] H4 H' ∧ j ≤ kb) ⟨⟨_, _, rfl⟩, Kp.refl _, Nat.zero_le _⟩ (fun j σ H' _ h => .inl (.inl (h.2.1.tp _ _ r2))) ?_ ?_
          · rintro j v' σ H6 H7 hj ⟨⟨o6, o7, rfl⟩, k6, hjk⟩ ⟨T, a1, y, rfl, hT, rfl, ea, ey⟩
            cases ea
            obtain ⟨e, he, dy⟩ := ay.getV ey
            have k7 := k6.snoc (o := .tup [.int (j : Nat), y]) hT
            refine ⟨T, _, rfl, SqT.of upd_same, rfl, _, _, rfl, _, _, rfl, rfl, ?_⟩
            refine ⟨_, rfl, _, rfl, _, _, rfl, .inr ⟨_, .inl (.inl ((k4.trans k7).tp _ _ e2)), rfl⟩, _, false, m2, y, e, _, rfl, dy.keep k7, fun H8 k8 => ⟨_, rfl, ?_⟩⟩
            rw [List.length_map]
            by_cases hlt : j < kb
            · rw [bP_t (F1 j e hlt he)]
              exact iteF ⟨⟨_, _, rfl⟩, k7.trans k8, by omega⟩
            · have ejk : j = kb := by omega
              subst ejk
              obtain ⟨⟨x, hx, hno⟩, rfl, rfl⟩ := F3 hj
              rw [he] at hx
              cases hx
              rw [bP_f hno]
              refine iteT ⟨_, rfl, _, rfl, by show 2 ≤ sizeLine; decide, fun u hu2 => ⟨by simp, fun b hb => err_in hb fun dd hdd => ?_⟩⟩
              exact kE u dd _ ((((k3.trans k4).trans (k7.trans k8)).snoc hu2).snoc hdd) ((Kp.new (ms := []) hdd).tp _ _ upd_same) upd_same
          · rintro σ H6 ⟨⟨o6, o7, rfl⟩, k6, hjk⟩
            exact ⟨⟨_, _, _, _, _, rfl⟩, (k3.trans k4).trans k6, F4 (by omega)⟩
      · rw [hv]
        exact iteF ⟨⟨_, _, _, _, _, rfl⟩, k3, by omega⟩
    · rintro σ H3 ⟨⟨o3, o4, o5, o6, o7, rfl⟩, k3, hij⟩
      omega
/-- f(e, ..), f a def that may raise -/
theorem pe_hasX {X : Cx} {E : XK} {k : Nat} {x : Str} {ps : List Str} {sp : Sp} {e : Expr} {es : List Expr} {t : TA} {p pos : Pos} (h : Has X.prog X.w X.K X.mg X.base (L2.CX X.prog X.w) x ps k sp) (hr : Room k X.A) (hx : Passes (L2.CX X.prog X.w) X E) (ha : PA X (e :: es) t) (hg : Gl X x := by rfl)
    (hdb : (x == ("__debug__" : Str)) = false := by decide) (he : starEach (e :: es) X.env = (false, eval e X.env) :: starEach es X.env := by rfl) (hpl : (backTo pos (starEach es X.env)).any (·.1) = false := by rfl) :
    PE X (.Call (.Name x p) (e :: es) [] pos) (tCall sp [] E t) := by
  obtain ⟨f, fd, F, g, kp, b⟩ := h
  exact pe_call F hr hg g kp b .nil hx ha hdb he hpl
def spStoreB (C CS CE : Addr) : Sp := fun vs H _ E => ∃ (p dx ps d : Addr) (tbs : List (Str × List Str)) (kvs : List (Key × V)) (nv : V) (i : Int), vs = [.ref p, .ref ps, .ref d] ∧ H p = some (.ins C dx []) ∧ ShapeAt CS H ps tbs ∧ GoodTs tbs ∧ H d = some (.dK kvs) ∧ kvs.length ≤ 1000 ∧ (∀ kv ∈ kvs, ∃ z, kv.1 = .inr z) ∧ BadRw H kvs tbs nv i ∧
  ∀ (u dd : Addr) (H' : Hp), Kp [] H H' → H' u = some (.tup [nv, .int i]) → H' dd = some (.xd [("value", .ref u)]) → E (.ref CE) (some dd) H'
theorem ok_store_initB {f C CS CE CM : Addr} {fd : FuncData} {tk : Tok} (B : Bi mg) (F : Fun K "__init__" "Store.__init__" s_Store_init f fd) (T : ShCls K mg CS) (X : InsX K CS) (U : StCls K mg C) (M : mg "MOST_ROWS" = some (.int 300 tk)) (EM : Err0 K mg "TooMany" CM) (G_check_rows : Has P w K mg base (L2.CX P w) "check_rows" ["shape", "rows"] 4 (spCheckB CS CE)) :
    FnOk P w K mg base (L2.CX P w) 5 f fd ["self", "shape", "rows"] (spStoreB C CS CE) := by
  refine F.okX sc_Store_init (fun vs H Q E h => ?_) (fun cdv A outer s H vs Q E hr h => ?_)
  · obtain ⟨p, dx, ps, d, tbs, kvs, nv, i, rfl, _⟩ := h; rfl
  · obtain ⟨p, dx, ps, d, tbs, kvs, nv, i, rfl, hp, SA, g, hd, lk, hs, BR, k⟩ := h
    have hu := hu_of hr
    refine ⟨_, (pss_cons (ps_if (pt_not (pt_val (pe_callB call_isi (by rfl) B.isinstance (by decide +kernel) (pa_cons (pv 1) (pa_cons (pe_glob (v := .ref CS) rfl T.mgC rfl) pa_nil)))))
  (pss_one ps_never)
  pss_nil)
  (pss_cons (ps_expr (pe_hasX (E := E) G_check_rows (hr.mono (by omega)) (passes_call (takes_of rfl rfl rfl rfl) (fun _ _ _ _ h => h)) (pa_cons (pv 1) (pa_cons (pv 2) pa_nil))))
  (pss_cons (ps_set (i := 3) sc_Store_init.nd rfl (by first | exact Or.inl rfl | exact Or.inr rfl) pe_int)
  (pss_cons (ps_set (i := 4) sc_Store_init.nd rfl (by first | exact Or.inl rfl | exact Or.inr rfl) pe_dnewK)
  (pss_cons (ps_for (passes_of rfl) rfl (pi_tup (pe_fld (pv 1) rfl)) (pg_tup rfl (pgs_cons (pg_name (i := 5) sc_Store_init.nd rfl (by first | exact Or.inl rfl | exact Or.inr rfl)) (pgs_cons (pg_name (i := 6) sc_Store_init.nd rfl (by first | exact Or.inl rfl | exact Or.inr rfl)) pgs_nil)))
  (pss_cons (ps_dput hu (pv 4) (pv 5) (pe_callTy call_tuple_of (by rfl) B.tuple (by decide +kernel) (pa_cons (pe_lc (own := [("row", 7)]) (g := gName 7) (by rfl) sc_Store_init.nd (pi_or (pi_list (pe_dget2 hu (pv 2) (pv 5) (pe_tup pa_nil) ⟨rfl, rfl, rfl, rfl⟩)) (pi_tup (pe_dget2 hu (pv 2) (pv 5) (pe_tup pa_nil) ⟨rfl, rfl, rfl, rfl⟩))) (blkOk_by (own := [("row", 7)]) (N := N_Store_init) (sc := defScope s_Store_init) (by decide +kernel)) (fun _ _ _ _ _ => (pg_name (i := 7) sc_Store_init.nd rfl (by first | exact Or.inl rfl | exact Or.inr rfl))) (fun _ _ _ _ _ => pts_nil) (fun _ _ _ _ _ => (pe_callTy (r := rTupO K) call_tuple_of (by rfl) B.tuple (by decide +kernel) (pa_cons (pv 7) pa_nil)))) pa_nil)) rfl)
  (pss_one (ps_aug (i := 3) sc_Store_init.nd rfl (by first | exact Or.inl rfl | exact Or.inr rfl) (pe_callB call_len (by rfl) B.len PySem.boot_len (pa_cons (pe_dget hu (pv 4) (pv 5) (fun _ _ => rfl)) pa_nil)) ip_add))))
  (pss_cons (ps_if (pt_cmpR op_gt (pv 3) (pe_glob (v := .int 300) rfl M ⟨_, rfl⟩) (nomark _))
  (pss_one (ps_raise0 rfl EM (takes_of rfl rfl rfl rfl)))
  pss_nil)
  (pss_cons (ps_fld (pv 0) (pv 1) rfl)
  (pss_one (ps_fld (pv 0) (pv 4) rfl))))))))), ?_⟩
    obtain ⟨sx, sv, hps, hsv⟩ := id SA
    refine ⟨_, rfl, _, _, _, _, _, rfl, .own CS, X.ty hps, kit_self, _, rfl, iteF ?_⟩
    exact ⟨_, rfl, _, rfl, ps, d, tbs, kvs, nv, i, rfl, SA, g, hd, lk, hs, BR, k⟩
theorem FnOk.or {CX : CXT} {k : Nat} {f : Addr} {fd : FuncData} {ps : List Str} {sp sp' : Sp} (F : FnOk P w K mg base CX k f fd ps sp) (G : FnOk P w K mg base CX k f fd ps sp') : FnOk P w K mg base CX k f fd ps (fun vs H Q E => sp vs H Q E ∨ sp' vs H Q E) :=
  ⟨fun vs H Q E h => h.elim (F.len vs H Q E) (G.len vs H Q E), fun A outer s H args us vs Q E hr he hb hv hs => hs.elim (F.run A outer s H args us vs Q E hr he hb hv) (G.run A outer s H args us vs Q E hr he hb hv)⟩
end
end Fm

namespace Fm
open PySem PySem.Spec PyProof.Rows L2
/-! ### the law's own values and rows -/
def spValue : Sp := fun vs H Q _ => ∃ (b c : Addr), vs = [.ref b] ∧ Bag H b c ∧ ∀ (v : Int) H', InV v → Bag H' b c → Kp [b] H H' → Q (.int v) H'
/-- a list of rows, held by nothing -/
def LsAt (b : Addr) (H : Hp) (v : V) (r : List (List Int)) : Prop := ∃ a xs, v = .ref a ∧ a ≠ b ∧ H a = some (.lst xs) ∧ xs.length ≤ 1000000 ∧ ImAll H 1 xs (r.map dRow)
theorem LsAt.dt {b : Addr} {H : Hp} {v : V} {r : List (List Int)} (h : LsAt b H v r) : Dt (fun _ => True) true H 2 v (.list (r.map dRow)) := by
  obtain ⟨a, xs, rfl, _, h1, h2, h3⟩ := h
  exact .lst (.inl h1) ⟨h2, trivial⟩ (h3.imp fun _ _ => trivial)
theorem LsAt.bag {b : Addr} {H H' : Hp} {v : V} {r : List (List Int)} (k : Kp [b] H H') (h : LsAt b H v r) : LsAt b H' v r := by
  obtain ⟨a, xs, rfl, n, h1, h2, h3⟩ := h
  exact ⟨a, xs, rfl, n, k.at_ _ _ h1 (by simpa using n), h2, ImAll.kp k h3⟩
theorem LsAt.dict {b D : Addr} {H H' : Hp} {z : List (Key × V)} {v : V} {r : List (List Int)} (hD : H D = some (.dK z)) (k : Kp [D] H H') (h : LsAt b H v r) : LsAt b H' v r := by
  obtain ⟨a, xs, rfl, n, h1, h2, h3⟩ := h
  exact ⟨a, xs, rfl, n, k.at_ _ _ h1 (by simpa using fun e => by rw [e, hD] at h1; cases h1), h2, ImAll.kp k h3⟩
inductive KvL (b : Addr) (H : Hp) : List (Key × V) → List (Str × List Str) → List (List (List Int)) → Prop
  | nil : KvL b H [] [] []
  | cons {v : V} {kvs : List (Key × V)} {t : Str × List Str} {ts : List (Str × List Str)} {r : List (List Int)} {R : List (List (List Int))} : LsAt b H v r → KvL b H kvs ts R → KvL b H ((.inr t.1, v) :: kvs) (t :: ts) (r :: R)
theorem KvL.g {b : Addr} {H : Hp} : ∀ {kvs : List (Key × V)} {ts : List (Str × List Str)} {R : List (List (List Int))}, KvL b H kvs ts R → KvG H .list kvs ts R
  | _, _, _, .nil => .nil
  | _, _, _, .cons a c => .cons a.dt c.g
theorem KvL.bag {b : Addr} {H H' : Hp} (k : Kp [b] H H') : ∀ {kvs : List (Key × V)} {ts : List (Str × List Str)} {R : List (List (List Int))}, KvL b H kvs ts R → KvL b H' kvs ts R
  | _, _, _, .nil => .nil
  | _, _, _, .cons a c => .cons (a.bag k) (c.bag k)
theorem KvL.snoc {b : Addr} {H : Hp} {v : V} {t : Str × List Str} {r : List (List Int)} (hv : LsAt b H v r) : ∀ {kvs : List (Key × V)} {ts : List (Str × List Str)} {R : List (List (List Int))}, KvL b H kvs ts R → KvL b H (kvs ++ [(.inr t.1, v)]) (ts ++ [t]) (R ++ [r])
  | _, _, _, .nil => .cons hv .nil
  | _, _, _, .cons a c => .cons a (c.snoc hv)
theorem KvL.get {b : Addr} {H : Hp} : ∀ {kvs : List (Key × V)} {ts : List (Str × List Str)} {R : List (List (List Int))}, KvL b H kvs ts R → ∀ {i : Nat} {t : Str × List Str}, ts[i]? = some t → ∃ v r, kvs[i]? = some (.inr t.1, v) ∧ R[i]? = some r ∧ LsAt b H v r
  | _, _, _, .cons a c, 0, t, h => by cases h; exact ⟨_, _, rfl, rfl, a⟩
  | _, _, _, .cons a c, i + 1, t, h => c.get (i := i) h
theorem KvL.val {b : Addr} {H : Hp} {kvs : List (Key × V)} {ts : List (Str × List Str)} {R : List (List (List Int))} (h : KvL b H kvs ts R) (nd : (ts.map (·.1)).Nodup) {i : Nat} {t : Str × List Str} (ht : ts[i]? = some t) : ∃ v r, valV kvs (.inr t.1) = some v ∧ R[i]? = some r ∧ LsAt b H v r := by
  obtain ⟨v, r, h1, h2, h3⟩ := h.get ht
  exact ⟨v, r, valV_at (by rw [h.g.keys]; exact inr_nd nd) h1, h2, h3⟩
theorem KvL.dict {b D : Addr} {H H' : Hp} {z : List (Key × V)} (hD : H D = some (.dK z)) (k : Kp [D] H H') : ∀ {kvs : List (Key × V)} {ts : List (Str × List Str)} {R : List (List (List Int))}, KvL b H kvs ts R → KvL b H' kvs ts R
  | _, _, _, .nil => .nil
  | _, _, _, .cons a c => .cons (a.dict hD k) (c.dict hD k)
theorem putK_cons {k k' : Key} {v x : V} {kvs : List (Key × V)} (h : k ∈ ((k', v) :: kvs).map (·.1)) (n : k' ≠ k) (h2 : k ∈ kvs.map (·.1)) : putK ((k', v) :: kvs) k x = (k', v) :: putK kvs k x := by
  unfold putK
  have a1 : ((k', v) :: kvs).any (fun kv => decide (kv.1 = k)) = true := List.any_eq_true.mpr (by
    obtain ⟨p, hp, e⟩ := List.mem_map.mp h
    exact ⟨p, hp, by simp [e]⟩)
  have a2 : kvs.any (fun kv => decide (kv.1 = k)) = true := List.any_eq_true.mpr (by
    obtain ⟨p, hp, e⟩ := List.mem_map.mp h2
    exact ⟨p, hp, by simp [e]⟩)
  rw [if_pos a1, if_pos a2, List.map_cons, if_neg n]
theorem putK_none {k : Key} {x : V} : ∀ {kvs : List (Key × V)}, k ∉ kvs.map (·.1) → kvs.map (fun kv => if kv.1 = k then (kv.1, x) else kv) = kvs
  | [], _ => rfl
  | p :: kvs, h => by
    rw [List.map_cons, if_neg (fun e => h (by rw [← e]; exact List.mem_cons_self)), putK_none fun h' => h (List.mem_cons_of_mem _ h')]
/-- one table's list changed -/
theorem KvL.put {b : Addr} {H : Hp} {v' : V} {r' : List (List Int)} (hv : LsAt b H v' r') : ∀ {kvs : List (Key × V)} {ts : List (Str × List Str)} {R : List (List (List Int))}, KvL b H kvs ts R → (ts.map (·.1)).Nodup → ∀ {i : Nat} {t : Str × List Str}, ts[i]? = some t → KvL b H (putK kvs (.inr t.1) v') ts (R.set i r')
  | _, _, _, @KvL.cons _ _ v kvs t ts r R a c, nd, 0, _, h => by
    cases h
    have hn : (Sum.inr t.1 : Key) ∉ kvs.map (·.1) := by
      rw [c.g.keys, inr_map]
      intro hm
      obtain ⟨x, hx, e⟩ := List.mem_map.mp hm
      cases e
      exact (List.nodup_cons.mp nd).1 hx
    have : putK ((.inr t.1, v) :: kvs) (.inr t.1) v' = (.inr t.1, v') :: kvs := by
      unfold putK
      rw [if_pos (by simp), List.map_cons, if_pos rfl, putK_none hn]
    rw [this]
    exact .cons hv c
  | _, _, _, @KvL.cons _ _ v kvs t ts r R a c, nd, i + 1, u, h => by
    have h : ts[i]? = some u := h
    have hm : (Sum.inr u.1 : Key) ∈ kvs.map (·.1) := by rw [c.g.keys]; exact List.mem_map.mpr ⟨u, List.mem_of_getElem? h, rfl⟩
    have hne : (Sum.inr t.1 : Key) ≠ .inr u.1 := fun e => (List.nodup_cons.mp nd).1 (List.mem_map.mpr ⟨u, List.mem_of_getElem? h, (Sum.inr.inj e).symm⟩)
    rw [putK_cons (by rw [List.map_cons]; exact List.mem_cons_of_mem _ hm) hne hm]
    exact .cons a (c.put hv (List.nodup_cons.mp nd).2 h)
/-- the law's dict of rows -/
def DueAt (b : Addr) (H : Hp) (d : Addr) (tbs : List (Str × List Str)) (R : List (List (List Int))) : Prop := d ≠ b ∧ ∃ kvs, H d = some (.dK kvs) ∧ KvL b H kvs tbs R
theorem DueAt.bag {b : Addr} {H H' : Hp} {d : Addr} {tbs : List (Str × List Str)} {R : List (List (List Int))} (h : DueAt b H d tbs R) (k : Kp [b] H H') : DueAt b H' d tbs R := by
  obtain ⟨n, kvs, h1, h2⟩ := h
  exact ⟨n, kvs, k.at_ _ _ h1 (by simpa using n), h2.bag k⟩
theorem DueAt.din {b : Addr} {H : Hp} {d : Addr} {tbs : List (Str × List Str)} {R : List (List (List Int))} (h : DueAt b H d tbs R) (g : GoodTs tbs) (gr : GoodR tbs R) : DictIn H d tbs R := by
  obtain ⟨n, kvs, h1, h2⟩ := h
  have := g.2.2.2
  refine ⟨kvs, h1, by rw [h2.g.len]; omega, fun kv hkv => ?_, InAll.of gr.1 fun i t r ht hr => .inl ?_⟩
  · have hm : kv.1 ∈ kvs.map (·.1) := List.mem_map.mpr ⟨kv, hkv, rfl⟩
    rw [h2.g.keys] at hm
    obtain ⟨u, hu, e⟩ := List.mem_map.mp hm
    exact ⟨u, hu, e.symm⟩
  · obtain ⟨v, r', a, b', c⟩ := h2.val g.2.1 ht
    rw [hr] at b'
    cases b'
    exact ⟨v, a, _, _, c.dt.weak, .inl rfl, vals_of (gr.2 i t r ht hr)⟩
def spRows : Sp := fun vs H Q _ => ∃ (b c t : Addr) (xs : List V) (tbs : List (Str × List Str)), vs = [.ref b, .ref t] ∧ Bag H b c ∧ H t = some (.lst xs) ∧ t ≠ b ∧ ImAll H 2 xs (tbs.map dTab) ∧ GoodTs tbs ∧
  ∀ d R H', Bag H' b c → Kp [b] H H' → H d = none → DueAt b H' d tbs R → GoodR tbs R → total R ≤ 45 → Q (.ref d) H'
theorem eight : ∀ n : Nat, n < 8 → ∃ k : Nat, ([V.int 2, V.int 3, V.int 4, V.int 1, V.int 5, V.int 0, V.int 3, V.int 9] : List V)[n]? = some (.int k) ∧ k ≤ 9
  | 0, _ => ⟨2, rfl, by decide⟩
  | 1, _ => ⟨3, rfl, by decide⟩
  | 2, _ => ⟨4, rfl, by decide⟩
  | 3, _ => ⟨1, rfl, by decide⟩
  | 4, _ => ⟨5, rfl, by decide⟩
  | 5, _ => ⟨0, rfl, by decide⟩
  | 6, _ => ⟨3, rfl, by decide⟩
  | 7, _ => ⟨9, rfl, by decide⟩
  | n + 8, h => absurd h (by omega)
theorem and_h {c1 : Bool} {T E : Hp → Prop} {X : Prop} {H5 : Hp} (P : Hp → Prop) (h5 : P H5) (e : ∀ H, P H → E H) (hX : c1 = true → (∀ H, P H → E H) → X) : if c1 = true then X else (if false = true then T H5 else E H5) := by
  cases c1
  · exact e _ h5
  · exact hX rfl e
theorem tab_at' {ms : List Addr} {H H' : Hp} {xs : List V} {tbs : List (Str × List Str)} {i : Nat} {u : V} (ix : ImAll H 2 xs (tbs.map dTab)) (k : Kp ms H H') (hu : xs[i]? = some u) : ∃ a b t, u = .ref a ∧ tbs[i]? = some t ∧ H' a = some (.tup [.str t.1, .ref b]) ∧ H' b = some (.tup (t.2.map V.str)) := by
  obtain ⟨a, b, t, h1, h2, h3, h4⟩ := tab_at ix (Kp.refl _) hu
  exact ⟨a, b, t, h1, h2, k.tp _ _ h3, k.tp _ _ h4⟩
section
variable {P : Program} {w : World} {K : PySem.W.Frag} {mg : Str → Option Value} {base : Heap}
theorem ok_value (B : Bi mg) (D : Dfn K mg "_law_value" s__law_value ["_law_bag_here"]) (G_pick : Has P w K mg base CX0 "_law_pick" ["_law_bag_here", "_law_many"] 1 spPick) : Has P w K mg base CX0 "_law_value" ["_law_bag_here"] 2 spValue := by
  refine D.has sc__law_value (fun vs H Q E h => ?_) (fun f cdv A outer s H vs Q E hr h => ?_)
  · obtain ⟨b, c, rfl, _⟩ := h; rfl
  · obtain ⟨b, c, rfl, BG, k⟩ := h
    refine ⟨_, (pss_cons (ps_if (pt_cmpR op_eq (pe_has G_pick (hr.mono (by omega)) (pa_cons (pv 0) (pa_cons pe_int pa_nil))) pe_int (nomark _))
  (pss_cons (ps_set (i := 1) sc__law_value.nd rfl (by first | exact Or.inl rfl | exact Or.inr rfl) (pe_op op_mul (pe_has G_pick (hr.mono (by omega)) (pa_cons (pv 0) (pa_cons pe_int pa_nil))) pe_int))
  (pss_one (ps_ret (pe_op op_sub (pe_op op_mod (pe_callTy call_int1 (by rfl) B.int (by decide +kernel) (pa_cons (pe_op op_add (pv 1) (pe_has G_pick (hr.mono (by omega)) (pa_cons (pv 0) (pa_cons pe_int pa_nil)))) pa_nil)) (pe_op op_add (pe_op op_mul pe_int (pe_op op_pow pe_int pe_int)) pe_int)) (pe_op op_pow pe_int pe_int)))))
  pss_nil)
  (pss_one (ps_ret (pe_op op_sub (pe_has G_pick (hr.mono (by omega)) (pa_cons (pv 0) (pa_cons pe_int pa_nil))) pe_int)))), ?_⟩
    refine ⟨_, rfl, b, c, 8, rfl, BG, by decide, by decide, fun r H1 r0 r1 B1 k1 => ⟨rfl, _, rfl, ?_⟩⟩
    refine ite2 (fun _ => ?_) (fun _ => ?_)
    · refine ⟨_, rfl, b, c, 44722, rfl, B1, by decide, by decide, fun r2 H2 r20 r21 B2 k2 => ⟨_, _, rfl, rfl, .inr ⟨by decide, by decide⟩, ?_⟩⟩
      refine ⟨_, rfl, _, rfl, b, c, 44722, rfl, B2, by decide, by decide, fun r3 H3 r30 r31 B3 k3 => ⟨_, _, rfl, rfl, .inl ⟨_, rfl, ?_⟩⟩⟩
      refine ⟨_, _, rfl, rfl, ⟨by decide, by decide, by decide⟩, _, _, rfl, rfl, .inl ⟨by decide, by decide⟩, _, _, rfl, rfl, _, _, rfl, rfl, ?_, _, _, rfl, rfl, ⟨by decide, by decide, by decide⟩, _, _, rfl, rfl, ?_⟩
      · show (0 : Int) < 2 * 10 ^ Int.toNat 9 + 1
        decide
      · refine k _ _ ?_ B3 ((k1.trans k2).trans k3)
        have e : (10 : Int) ^ Int.toNat 9 = 1000000000 := by decide
        have e0 := Int.emod_nonneg (r2 * 44722 + r3) (show (2 * 10 ^ Int.toNat 9 + 1 : Int) ≠ 0 by decide)
        have e1 := Int.emod_lt_of_pos (r2 * 44722 + r3) (show (0 : Int) < 2 * 10 ^ Int.toNat 9 + 1 by decide)
        rw [e] at e0 e1 ⊢
        exact ⟨by omega, by omega⟩
    · refine ⟨_, rfl, b, c, 5, rfl, B1, by decide, by decide, fun r2 H2 r20 r21 B2 k2 => ⟨_, _, rfl, rfl, ?_⟩⟩
      exact k _ _ ⟨by omega, by omega⟩ B2 (k1.trans k2)
end
end Fm

namespace Fm
open PySem PySem.Spec PyProof.Rows L2
/-! ### C(..) and o.m(..) in a try: what is raised depends on the slots -/
section
variable {X : Cx} {CX : CXT} {k : Nat} {f C : Addr} {fd : FuncData} {ps : List Str} {sp : Sp} {dvs : List V} {ds : List Value} {E : L2.St → XK} {x : Str} {p pos : Pos} {e : Expr} {es : List Expr} {t : TA}
def tMakeS (C : Addr) (sp : Sp) (dvs : List V) (E : L2.St → XK) (t : TA) : TE := fun σ H Q => t σ H fun vs H1 => ∀ x dx, H1 x = none → H1 dx = none → dx ≠ x →
  sp (.ref x :: (vs ++ dvs)) (upd (upd H1 dx (.own x)) x (.ins C dx [])) (fun v H2 => v = .non ∧ Q (.ref x) H2) (E σ)
theorem run_makeS {pins : List (Addr × Obj)} {σ : L2.St} {H : Hp} {s : Shared} {Q : VK} {us : List Value} {vs : List V} (M : Mk X.K C f) (F : FnOk X.prog X.w X.K X.mg X.base CX k f fd ps sp) (hr : Room (k + 1) X.A) (hb : Binds X.K fd ps ds) (hd : Vals dvs ds)
    (hx : PassesAt CX X σ (E σ)) (I : L2.Inv X pins σ H s) (r : Vals vs us)
    (h : ∀ x dx, H x = none → H dx = none → dx ≠ x → sp (.ref x :: (vs ++ dvs)) (upd (upd H dx (.own x)) x (.ins C dx [])) (fun v H2 => v = .non ∧ Q (.ref x) H2) (E σ)) :
    wpAny (model X.prog X.w) X.A (call (.ref C) us) (EP X pins σ Q) X.xe s := by
  obtain ⟨z, hz⟩ : ∃ z, z = s.heap.objs.size := ⟨_, rfl⟩
  have hq := h (z + 1) z (I.hok.fresh (by omega)) (I.hok.fresh (by omega)) (Nat.ne_of_lt (Nat.lt_succ_self _))
  have J := Inv.made (C := C) I
  rw [← hz] at J
  have r2 : Vals (V.ref (z + 1) :: (vs ++ dvs)) (Value.ref (z + 1) :: (us ++ ds)) := .cons rfl (r.append hd)
  have hl : (Value.ref (z + 1) :: us ++ ds).length = ps.length := r2.length.symm.trans (F.len _ _ _ _ hq)
  subst hz
  refine wpAny_call (make_map (f := f) I.kIn M.makes M.init (beq_iff_eq.mp M.fn) (codeAny_mono (F.run _ X.stack _ _ ⟨_ :: us, []⟩ (_ :: (us ++ ds)) _ _ (E σ) (hr.make C us []) (J.env0.make C us []) (hb _ (_ :: us) J.kIn hl) r2 hq) fun u s' hu => ?_))
  match u, hu with
  | .error e, hu => exact hx pins _ _ e s' J hu
  | .ok (.ret u), hu =>
    obtain ⟨v, H', J3, rv, ev, q3⟩ := J.after hu
    subst ev
    exact ⟨rv, V.ref (s.heap.objs.size + 1), H', J3, rfl, q3⟩
theorem pe_makeS (M : Mk X.K C f) (F : FnOk X.prog X.w X.K X.mg X.base CX k f fd ps sp) (hr : Room (k + 1) X.A) (hg : Gl X x) (hm : X.mg x = some (.ref C)) (hb : Binds X.K fd ps ds) (hd : Vals dvs ds) (hx : ∀ σ, PassesAt CX X σ (E σ))
    (ha : PA X (e :: es) t) (hdb : (x == ("__debug__" : Str)) = false := by decide) (he : starEach (e :: es) X.env = (false, eval e X.env) :: starEach es X.env := by rfl) (hpl : (backTo pos (starEach es X.env)).any (·.1) = false := by rfl) :
    PE X (.Call (.Name x p) (e :: es) [] pos) (tMakeS C sp dvs E t) := by
  refine ⟨fun pins s σ H Q I h => wpAny_Call_Name_kw (ld_glob I hg hm ?_ hdb)⟩
  exact PySem.W.callWith_K (h₀ := X.base) I.ok.mod.kin M.kp (thn (ha.run pos pins s σ H _ I h) fun us s1 ⟨vs, H1, I1, r, q⟩ => ⟨I1.kIn, run_makeS M F hr hb hd (hx σ) I1 r q⟩) he hpl
end
/-! ### a method called in a try -/
section
variable {X : Cx} {CX : CXT} {k : Nat} {f C : Addr} {fd : FuncData} {ps : List Str} {sp : Sp} {E : L2.St → XK} {m : Str} {pos apos : Pos} {e o : Expr} {es : List Expr} {ta : TE} {t : TA}
def tMethT (C : Addr) (m : Str) (sp : Sp) (E : L2.St → XK) (ta : TE) (t : TA) : TE := fun σ H Q => ta σ H fun x H1 => ∃ a dx fs, x = .ref a ∧ H1 a = some (.ins C dx fs) ∧ fs.lookup m = none ∧ t σ H1 fun vs H2 => sp (.ref a :: vs) H2 Q (E σ)
theorem pe_methT {pl : Sem Bool} (he : PE X o ta) (c : Cls X.K C) (hm : Meth X.K C m f) (F : FnOk X.prog X.w X.K X.mg X.base CX k f fd ps sp) (hr : Room k X.A) (hb : Binds X.K fd ps []) (hx : ∀ σ, PassesAt CX X σ (E σ)) (ha : PA X (e :: es) t)
    (hst : starEach (e :: es) X.env = (false, eval e X.env) :: starEach es X.env := by rfl) (hpl : (backTo pos (starEach es X.env)).any (·.1) = false := by rfl)
    (ht : eval (.Call (.Attribute o m apos) (e :: es) [] pos) X.env = (do
      let ov ← eval o X.env
      standAt apos.atName
      let (f, first) ← holding [ov] (getMethod ov m pl); callWith pos f first (backTo pos (starEach (e :: es) X.env)) (backToKw pos (keywordEach [] X.env))) := by rfl) :
    PE X (.Call (.Attribute o m apos) (e :: es) [] pos) (tMethT C m sp E ta t) := by
  refine ⟨fun pins s σ H Q I h => PySem.W.methodCall_KW (pl := pl) (thn (he.run pins s σ H _ I h) fun u s1 ⟨x, H1, I1, rx, a, dx, fs, ex, ea, l, q⟩ => ?_) ht⟩
  subst ex
  obtain rfl : u = Value.ref a := rx
  exact getmeth_ok I1 ea c hm l (PySem.W.callWith_K (first := [.ref a]) (h₀ := X.base) I1.ok.mod.kin hm.kp (thn (ha.run pos pins s1 σ H1 _ I1 q) fun us s2 ⟨vs, H2, I2, r, q2⟩ => ⟨I2.kIn, run_fnS (us := .ref a :: us) (vs := .ref a :: vs) F hr hb (hx σ) I2 (.cons rfl r) q2⟩) hst hpl)
end
theorem StAt.kp {C CS : Addr} {H H' : Hp} {p ps : Addr} {tbs : List (Str × List Str)} {R : List (List (List Int))} (h : StAt C CS H p ps tbs R) (k : Kp [] H H') : StAt C CS H' p ps tbs R := by
  obtain ⟨dx, kd, kvs, h1, h2, h3, h4⟩ := h
  exact ⟨dx, kd, kvs, k.at_ _ _ h1 (fun z => nomatch z), h2.kp k (fun z => nomatch z), k.at_ _ _ h3 (fun z => nomatch z), h4.kp k⟩
theorem StAt.bag {C CS : Addr} {H H' : Hp} {b c p ps : Addr} {tbs : List (Str × List Str)} {R : List (List (List Int))} (h : StAt C CS H p ps tbs R) (B : Bag H b c) (k : Kp [b] H H') : StAt C CS H' p ps tbs R := by
  obtain ⟨_, _, _, _, _, hb, _⟩ := B.bg
  obtain ⟨dx, kd, kvs, h1, h2, h3, h4⟩ := h
  obtain ⟨sx, sv, s1, s2⟩ := id h2
  exact ⟨dx, kd, kvs, k.at_ _ _ h1 (by simpa using fun z => by rw [z, hb] at h1; cases h1), h2.kp k (by simpa using fun z => by rw [z, hb] at s1; cases s1), k.at_ _ _ h3 (by simpa using fun z => by rw [z, hb] at h3; cases h3), h4.kp k⟩
def spTells7 (C CS : Addr) : Sp := fun vs H Q _ => ∃ (b p ps t d : Addr) (xs : List V) (tbs : List (Str × List Str)) (R : List (List (List Int))), vs = [.ref p, .ref t, .ref d] ∧ StAt C CS H p ps tbs R ∧ GoodTs tbs ∧ H t = some (.lst xs) ∧ ImAll H 2 xs (tbs.map dTab) ∧ DueAt b H d tbs R ∧ ∀ H', Kp [] H H' → Q (.bl true) H'
def spMade7 (C CS : Addr) : Sp := fun vs H Q _ => ∃ (s d : Addr) (tbs : List (Str × List Str)), vs = [.ref s, .ref d] ∧ ShapeAt CS H s tbs ∧ GoodTs tbs ∧
  ((∃ R, DictIn H d tbs R ∧ total R ≤ 1000000 ∧ (∀ q p H', total R ≤ 300 → Kp [] H H' → H' q = some (.tup [.str "made", .ref p]) → StAt C CS H' p s tbs R → Q (.ref q) H') ∧ (∀ q H', 300 < total R → Kp [] H H' → H' q = some (.tup [.str "many"]) → Q (.ref q) H')) ∨
   (∃ (kvs : List (Key × V)) (nv : V) (i : Int), H d = some (.dK kvs) ∧ kvs.length ≤ 1000 ∧ (∀ kv ∈ kvs, ∃ z, kv.1 = .inr z) ∧ BadRw H kvs tbs nv i ∧ ∀ q u H', Kp [] H H' → H' q = some (.tup [.str "rows", .ref u]) → H' u = some (.tup [nv, .int i]) → Q (.ref q) H'))
def spPut7 (C CS : Addr) : Sp := fun vs H Q _ => ∃ (p ps : Addr) (tbs : List (Str × List Str)) (R : List (List (List Int))) (S S' : Addr → Prop) (q q' : Bool) (n n' : Nat) (x y : V) (d e : PyData), vs = [.ref p, y, x] ∧ StAt C CS H p ps tbs R ∧ GoodTs tbs ∧ GoodR tbs R ∧ total R ≤ 300 ∧ Dt S q H n x d ∧ Dt S' q' H n' y e ∧
  (∀ (i : Nat) t r, tbs[i]? = some t → R[i]? = some r → e = .str t.1 →
    (∀ ns a p' H', ValsD t.2.length d ns → total R + 1 ≤ 300 → Kp [] H H' → H' a = some (.tup [.str "made", .ref p']) → StAt C CS H' p' ps tbs (R.set i (r ++ [ns])) → Q (.ref a) H') ∧
    (∀ ns a H', ValsD t.2.length d ns → 300 < total R + 1 → Kp [] H H' → H' a = some (.tup [.str "many"]) → Q (.ref a) H') ∧
    ((¬ ∃ ns, ValsD t.2.length d ns) → ∀ (u a : Addr) (H' : Hp), Kp [] H H' → H' a = some (.tup [.str "rows", .ref u]) → H' u = some (.tup [.str t.1, .int r.length]) → Q (.ref a) H')) ∧
  ((∀ t ∈ tbs, e ≠ .str t.1) → ∀ (a : Addr) (H' : Hp), Kp [] H H' → H' a = some (.tup [.str "name", y]) → Q (.ref a) H')
section
variable {P : Program} {w : World} {K : PySem.W.Frag} {mg : Str → Option Value} {base : Heap}
theorem ok_tells7 {C CS fR : Addr} {fdR : FuncData} (B : Bi mg) (D : Dfn K mg "_law_tells" s__law_tells ["_law_store", "_law_tables_here", "_law_rows"]) (U : StCls K mg C) (GR : FnOk P w K mg base CX0 4 fR fdR ["self", "name"] (spRowsOf C CS)) (bR : Binds K fdR ["self", "name"] []) (mR : Meth K C "rows_of" fR)
    (G_alike : Has P w K mg base CX0 "_law_alike" ["_law_one", "_law_other"] 4 (spAlike 3)) : Has P w K mg base CX0 "_law_tells" ["_law_store", "_law_tables_here", "_law_rows"] 5 (spTells7 C CS) := by
  refine D.has sc__law_tells (fun vs H Q E h => ?_) (fun f cdv A outer s H vs Q E hr h => ?_)
  · obtain ⟨b, p, ps, t, d, xs, tbs, R, rfl, _⟩ := h; rfl
  · obtain ⟨b, p, ps, t, d, xs, tbs, R, rfl, ST, g, ht, ix, DA, k⟩ := h
    have hu := hu_of hr
    refine ⟨_, (pss_cons (ps_for PassesOwn.never rfl (pi_list (pv 1)) (pg_tup rfl (pgs_cons (pg_name (i := 3) sc__law_tells.nd rfl (by first | exact Or.inl rfl | exact Or.inr rfl)) (pgs_cons (pg_name (i := 4) sc__law_tells.nd rfl (by first | exact Or.inl rfl | exact Or.inr rfl)) pgs_nil)))
  (pss_one (ps_if (pt_not (pt_val (pe_has G_alike hr (pa_cons (pe_meth (E := E0) (pv 0) U.cl mR GR hr bR .nil pass0 (pa_cons (pv 3) pa_nil)) (pa_cons (pe_dget hu (pv 2) (pv 3) (fun _ _ => rfl)) pa_nil)))))
  (pss_one (ps_ret pe_bl))
  pss_nil)))
  (pss_one (ps_ret pe_bl))), ?_⟩
    have el : xs.length = tbs.length := by rw [ix.len, List.length_map]
    refine ⟨_, rfl, t, rfl, ⟨_, SqL.of ht⟩, ?_⟩
    refine for_it (walk_list (xs := xs)) (fun i σ H' => (∃ o3 o4, σ = [some (.ref p), some (.ref t), some (.ref d), o3, o4]) ∧ Kp [] H H') ⟨⟨_, _, rfl⟩, Kp.refl _⟩ (fun i σ H' _ h => SqL.of (h.2.at_ _ _ ht (fun z => nomatch z))) ?_ ?_
    · rintro i u σ H2 H3 hi ⟨⟨o3, o4, rfl⟩, k3⟩ ⟨rfl, hu1⟩
      obtain ⟨a', b', tt, rfl, htt, e1, e2⟩ := tab_at' ix k3 hu1
      have ST3 := ST.kp k3
      obtain ⟨nd, kvs, hd, KL⟩ := DA.bag (k3.zero (ms := [b]))
      obtain ⟨v, r, hv, hr1, LA⟩ := KL.val g.2.1 htt
      obtain ⟨dx, kd, kvs2, hp, hrest⟩ := id ST3
      refine ⟨a', _, rfl, SqT.of e1, rfl, _, _, rfl, _, _, rfl, rfl, ?_⟩
      refine ⟨_, rfl, p, dx, _, rfl, hp, rfl, _, rfl, p, ps, tbs, R, i, tt, r, rfl, ST3, g, htt, hr1, fun l ys H4 k4 hl h4 i4 => ?_⟩
      have hd4 := k4.at_ _ _ hd (fun z => nomatch z)
      refine ⟨_, rfl, _, rfl, d, v, rfl, .inl ⟨kvs, .inr tt.1, .inl hd4, rfl, hv.symm⟩, ?_⟩
      have len : ys.length ≤ 1000000 := by
        obtain ⟨a, zs, _, _, _, h2, h3⟩ := LA
        have := h3.len; have := i4.len
        omega
      refine ⟨_, _, .ref l, v, _, rfl, (Dt.lst (S := fun _ => True) (.inl h4) ⟨len, trivial⟩ (i4.imp fun _ _ => trivial)).mono (m := 3) (by decide), ((LA.dt.keep k4).mono (m := 3) (by decide)).weak, fun H5 k5 => ⟨_, rfl, iteF ?_⟩⟩
      exact ⟨⟨_, _, rfl⟩, (k3.trans k4).trans k5⟩
    · rintro σ H2 ⟨⟨o3, o4, rfl⟩, k2⟩
      exact k H2 k2
theorem ok_made7 {C CS CM CR fS : Addr} {fdS : FuncData} (B : Bi mg) (D : Dfn K mg "_law_made" s__law_made ["_law_shape", "_law_rows"]) (U : StCls K mg C) (M : Mk K C fS) (GS : FnOk P w K mg base (L2.CX P w) 5 fS fdS ["self", "shape", "rows"] (fun vs H Q E => spStoreT C CS CM vs H Q E ∨ spStoreB C CS CR vs H Q E)) (bS : Binds K fdS ["self", "shape", "rows"] [])
    (gM : mg "TooMany" = some (.ref CM)) (eMM : PySem.W.exmOne K (.ref CM) (.ref CM) = some true) (gR : mg "BadRows" = some (.ref CR)) (xR : XfC K CR) (nR : PySem.W.findIn K (.ref CR) "value" = some none) (eRM : PySem.W.exmOne K (.ref CR) (.ref CM) = some false) (eRR : PySem.W.exmOne K (.ref CR) (.ref CR) = some true) :
    Has P w K mg base CX0 "_law_made" ["_law_shape", "_law_rows"] 7 (spMade7 C CS) := by
  refine D.has sc__law_made (fun vs H Q E h => ?_) (fun f cdv A outer s0 H vs Q E hr h => ?_)
  · obtain ⟨s, d, tbs, rfl, _⟩ := h; rfl
  · obtain ⟨s, d, tbs, rfl, SA, g, h⟩ := h
    refine ⟨_, (pss_cons (ps_set (i := 2) sc__law_made.nd rfl (by first | exact Or.inl rfl | exact Or.inr rfl) pe_non)
  (pss_cons (ps_set (i := 3) sc__law_made.nd rfl (by first | exact Or.inl rfl | exact Or.inr rfl) pe_non)
  (pss_cons (ps_try_cl (Wo := fun _ _ _ _ => False) rfl rfl takes0 (fun W pn xe tk _ => (pss_one (ps_set (i := 3) sc__law_made.nd rfl (by first | exact Or.inl rfl | exact Or.inr rfl) (pe_makeS M GS (hr.mono (by omega)) rfl U.mgC bS .nil (fun σ => passAt tk σ) (pa_cons (pv 0) (pa_cons (pv 1) pa_nil))))))
  (.bare ⟨rfl, by decide, .inl gM⟩ (fun a oe cls d pn hz hf => (pss_one (ps_set (i := 2) sc__law_made.nd rfl (by first | exact Or.inl rfl | exact Or.inr rfl) (pe_tup (pa_cons pe_str pa_nil))))) (.named (i := 4) sc__law_made.nd rfl rfl ⟨rfl, by decide, .inl gR⟩ (fun a oe cls d pn hz hf => (pss_one (ps_set (i := 2) sc__law_made.nd rfl (by first | exact Or.inl rfl | exact Or.inr rfl) (pe_tup (pa_cons pe_str (pa_cons (pe_xf xR nR hz hf (pv 4)) pa_nil)))))) .nil)))
  (pss_cons (ps_if (pt_cmpR op_notN (pv 2) pe_non (nomark _))
  (pss_one (ps_ret (pv 2)))
  pss_nil)
  (pss_one (ps_ret (pe_tup (pa_cons pe_str (pa_cons (pv 3) pa_nil))))))))), ?_⟩
    refine ⟨_, rfl, _, rfl, fun p dx hp hdx hne => ?_⟩
    have kk : Kp [] H (upd (upd H dx (.own p)) p (.ins C dx [])) := (Kp.new hdx).snoc (by rw [upd_ne (Ne.symm hne)]; exact hp)
    rcases h with ⟨R, DI, tot, kM, kT⟩ | ⟨kvs, nv, i, hd, lk, hs, BR, kR⟩
    · refine .inl ⟨p, dx, s, d, tbs, R, rfl, upd_same, SA.kp kk (fun z => nomatch z), g, ?_, tot, fun H1 t3 k1 st => ⟨rfl, ?_⟩, fun H1 t3 k1 => ?_⟩
      · obtain ⟨kvs, h1, h2, h3, h4⟩ := DI
        exact ⟨kvs, kk.at_ _ _ h1 (fun z => nomatch z), h2, h3, h4.keep kk⟩
      · refine ⟨_, rfl, rfl, _, rfl, iteF ⟨_, rfl, by show 2 ≤ sizeLine; decide, fun q hq => ?_⟩⟩
        exact kM q p _ t3 ((kk.via k1 (by simp [hp])).snoc hq) upd_same (st.kp (Kp.new hq))
      · refine ⟨true, eMM, fun _ a ha => ⟨by show 1 ≤ sizeLine; decide, fun q hq => ⟨_, rfl, rfl, _, rfl, iteT ⟨_, rfl, ?_⟩⟩⟩, fun z => nomatch z⟩
        exact kT q _ t3 ((kk.trans k1).snoc hq) upd_same
    · refine .inr ⟨p, dx, s, d, tbs, kvs, nv, i, rfl, upd_same, SA.kp kk (fun z => nomatch z), g, kk.at_ _ _ hd (fun z => nomatch z), lk, hs, ?_, fun u dd H1 k1 hu e1 => ?_⟩
      · rcases BR with h | ⟨h1, j, k, t, R', h2, h3, h4, h5⟩
        · exact .inl h
        · exact .inr ⟨h1, j, k, t, R', h2, h3.keep kk, h4.keep kk, h5⟩
      · refine ⟨false, eRM, (fun z => nomatch z), fun _ => ⟨true, eRR, fun _ a ha => ⟨_, rfl, rfl, rfl, dd, _, .ref u, rfl, e1, rfl, by show 2 ≤ sizeLine; decide, fun q hq => ⟨_, rfl, rfl, _, rfl, iteT ⟨_, rfl, ?_⟩⟩⟩, fun z => nomatch z⟩⟩
        exact kR q u _ ((kk.trans k1).snoc hq) upd_same ((Kp.new (ms := []) hq).tp _ _ hu)
theorem ok_put7 {C CS CM CR CN fW : Addr} {fdW : FuncData} (B : Bi mg) (D : Dfn K mg "_law_put" s__law_put ["_law_store", "_law_name_here", "_law_row"]) (U : StCls K mg C) (GW : FnOk P w K mg base (L2.CX P w) 7 fW fdW ["self", "name", "row"] (spWithG C CS CN CR CM)) (bW : Binds K fdW ["self", "name", "row"] []) (mW : Meth K C "with_row" fW)
    (gM : mg "TooMany" = some (.ref CM)) (eMM : PySem.W.exmOne K (.ref CM) (.ref CM) = some true) (gR : mg "BadRows" = some (.ref CR)) (xR : XfC K CR) (nR : PySem.W.findIn K (.ref CR) "value" = some none) (eRM : PySem.W.exmOne K (.ref CR) (.ref CM) = some false) (eRR : PySem.W.exmOne K (.ref CR) (.ref CR) = some true)
    (gN : mg "BadName" = some (.ref CN)) (xN : XfC K CN) (nN : PySem.W.findIn K (.ref CN) "value" = some none) (eNM : PySem.W.exmOne K (.ref CN) (.ref CM) = some false) (eNR : PySem.W.exmOne K (.ref CN) (.ref CR) = some false) (eNN : PySem.W.exmOne K (.ref CN) (.ref CN) = some true) :
    Has P w K mg base CX0 "_law_put" ["_law_store", "_law_name_here", "_law_row"] 8 (spPut7 C CS) := by
  refine D.has sc__law_put (fun vs H Q E h => ?_) (fun f cdv A outer s0 H vs Q E hr h => ?_)
  · obtain ⟨p, ps, tbs, R, S, S', q, q', n, n', x, y, d, e, rfl, _⟩ := h; rfl
  · obtain ⟨p, ps, tbs, R, S, S', q, q', n, n', x, y, d, e, rfl, ST, g, gr, tot, hx, hy, kk, kN⟩ := h
    refine ⟨_, (pss_cons (ps_set (i := 3) sc__law_put.nd rfl (by first | exact Or.inl rfl | exact Or.inr rfl) pe_non)
  (pss_cons (ps_set (i := 4) sc__law_put.nd rfl (by first | exact Or.inl rfl | exact Or.inr rfl) pe_non)
  (pss_cons (ps_try_cl (Wo := fun _ _ _ _ => False) rfl rfl takes0 (fun W pn xe tk _ => (pss_one (ps_set (i := 4) sc__law_put.nd rfl (by first | exact Or.inl rfl | exact Or.inr rfl) (pe_methT (pv 0) U.cl mW GW (hr.mono (by omega)) bW (fun σ => passAt tk σ) (pa_cons (pv 1) (pa_cons (pv 2) pa_nil))))))
  (.bare ⟨rfl, by decide, .inl gM⟩ (fun a oe cls d pn hz hf => (pss_one (ps_set (i := 3) sc__law_put.nd rfl (by first | exact Or.inl rfl | exact Or.inr rfl) (pe_tup (pa_cons pe_str pa_nil))))) (.named (i := 5) sc__law_put.nd rfl rfl ⟨rfl, by decide, .inl gR⟩ (fun a oe cls d pn hz hf => (pss_one (ps_set (i := 3) sc__law_put.nd rfl (by first | exact Or.inl rfl | exact Or.inr rfl) (pe_tup (pa_cons pe_str (pa_cons (pe_xf xR nR hz hf (pv 5)) pa_nil)))))) (.named (i := 5) sc__law_put.nd rfl rfl ⟨rfl, by decide, .inl gN⟩ (fun a oe cls d pn hz hf => (pss_one (ps_set (i := 3) sc__law_put.nd rfl (by first | exact Or.inl rfl | exact Or.inr rfl) (pe_tup (pa_cons pe_str (pa_cons (pe_xf xN nN hz hf (pv 5)) pa_nil)))))) .nil))))
  (pss_cons (ps_if (pt_cmpR op_notN (pv 3) pe_non (nomark _))
  (pss_one (ps_ret (pv 3)))
  pss_nil)
  (pss_one (ps_ret (pe_tup (pa_cons pe_str (pa_cons (pv 4) pa_nil))))))))), ?_⟩
    obtain ⟨dx, kd, kvs, hp, _⟩ := id ST
    refine ⟨_, rfl, p, dx, _, rfl, hp, rfl, _, rfl, _, rfl, p, ps, tbs, R, S, S', q, q', n, n', x, y, d, e, rfl, ST, g, gr, tot, hx, hy, fun i t r ht hr1 ee => ⟨fun ns p' H1 hv t3 k1 hp' st => ?_, fun ns H1 hv t3 k1 => ?_, fun hno u dd H1 k1 hu e1 => ?_⟩, fun hno dd H1 k1 e1 => ?_⟩
    · refine ⟨_, rfl, rfl, _, rfl, iteF ⟨_, rfl, by show 2 ≤ sizeLine; decide, fun a ha => ?_⟩⟩
      exact (kk i t r ht hr1 ee).1 ns a p' _ hv t3 (k1.snoc ha) upd_same (st.kp (Kp.new ha))
    · refine ⟨true, eMM, fun _ a0 ha0 => ⟨by show 1 ≤ sizeLine; decide, fun a ha => ⟨_, rfl, rfl, _, rfl, iteT ⟨_, rfl, ?_⟩⟩⟩, fun z => nomatch z⟩
      exact (kk i t r ht hr1 ee).2.1 ns a _ hv t3 (k1.snoc ha) upd_same
    · refine ⟨false, eRM, (fun z => nomatch z), fun _ => ⟨true, eRR, fun _ a0 ha0 => ⟨_, rfl, rfl, rfl, dd, _, .ref u, rfl, e1, rfl, by show 2 ≤ sizeLine; decide, fun a ha => ⟨_, rfl, rfl, _, rfl, iteT ⟨_, rfl, ?_⟩⟩⟩, fun z => nomatch z⟩⟩
      exact (kk i t r ht hr1 ee).2.2 hno u a _ (k1.snoc ha) upd_same ((Kp.new (ms := []) ha).tp _ _ hu)
    · refine ⟨false, eNM, (fun z => nomatch z), fun _ => ⟨false, eNR, (fun z => nomatch z), fun _ => ⟨true, eNN, fun _ a0 ha0 => ⟨_, rfl, rfl, rfl, dd, _, y, rfl, e1, rfl, by show 2 ≤ sizeLine; decide, fun a ha => ⟨_, rfl, rfl, _, rfl, iteT ⟨_, rfl, ?_⟩⟩⟩, fun z => nomatch z⟩⟩⟩
      exact kN hno a _ (k1.snoc ha) upd_same
end
end Fm

namespace Fm
open PySem PySem.Spec PyProof.Rows L2
theorem atI_end {α : Type} {xs : List α} {v : α} {n : Nat} (hn : n + 1 = xs.length) (h : xs[n]? = some v) : atI xs (-1) = some v := by
  have e : xs = xs.take n ++ [v] := by
    have := take_snoc h
    rw [hn, List.take_length] at this
    exact this
  rw [e]
  exact atI_last _ _
theorem DtAll.rep {S : Addr → Prop} {q : Bool} {H : Hp} {n : Nat} {v : List V} {d : List PyData} (h : DtAll S q H n v d) : ∀ k : Nat, DtAll S q H n (List.replicate k v).flatten (List.replicate k d).flatten
  | 0 => .nil
  | k + 1 => by
    rw [List.replicate_succ, List.replicate_succ, List.flatten_cons, List.flatten_cons]
    exact h.append (h.rep k)
theorem rep_map (k : Nat) (rr : List (List Int)) : (List.replicate k (rr.map dRow)).flatten = ((List.replicate k rr).flatten).map dRow := by
  rw [List.map_flatten, List.map_replicate]
theorem rep_mem {α : Type} {k : Nat} {rr : List α} {x : α} (h : x ∈ (List.replicate k rr).flatten) : x ∈ rr := by
  obtain ⟨l, hl, hx⟩ := List.mem_flatten.mp h
  rw [(List.mem_replicate.mp hl).2] at hx
  exact hx
theorem rep_len {α : Type} (k : Nat) (rr : List α) : (List.replicate k rr).flatten.length = k * rr.length := by
  rw [List.length_flatten, List.map_replicate, List.sum_replicate_nat]
def spDealt : Sp := fun vs H Q _ => ∃ (b c t : Addr) (xs : List V) (tbs : List (Str × List Str)) (m : Nat), vs = [.ref b, .ref t, .int m] ∧ Bag H b c ∧ H t = some (.lst xs) ∧ t ≠ b ∧ ImAll H 2 xs (tbs.map dTab) ∧ GoodTs tbs ∧ m ≤ 1000 ∧
  ∀ d R H', Bag H' b c → Kp [b] H H' → H d = none → DueAt b H' d tbs R → GoodR tbs R → total R = m → Q (.ref d) H'
theorem and_e {c1 c2 : Bool} {T E X : Prop} (hX : (if c2 = true then T else E) → X) (t : c1 = true → c2 = true → T) (e : E) : if c1 = true then X else (if false = true then T else E) := by
  cases c1
  · exact e
  · refine hX ?_
    cases c2
    · exact e
    · exact t rfl rfl
theorem and_h7 {c1 : Bool} {T E : Hp → Prop} {X : Prop} {H5 : Hp} (e : c1 = false → E H5) (hX : c1 = true → X) : if c1 = true then X else (if false = true then T H5 else E H5) := by
  cases c1
  · exact e rfl
  · exact hX rfl
section
variable {P : Program} {w : World} {K : PySem.W.Frag} {mg : Str → Option Value} {base : Heap}
theorem ok_dealt (B : Bi mg) (D : Dfn K mg "_law_dealt" s__law_dealt ["_law_bag_here", "_law_tables_here", "_law_many"]) (G_pick : Has P w K mg base CX0 "_law_pick" ["_law_bag_here", "_law_many"] 1 spPick) (G_value : Has P w K mg base CX0 "_law_value" ["_law_bag_here"] 2 spValue) :
    Has P w K mg base CX0 "_law_dealt" ["_law_bag_here", "_law_tables_here", "_law_many"] 3 spDealt := by
  refine D.has sc__law_dealt (fun vs H Q E h => ?_) (fun f cdv A outer s H vs Q E hr h => ?_)
  · obtain ⟨b, c, t, xs, tbs, m, rfl, _⟩ := h; rfl
  · obtain ⟨b, c, t, xs, tbs, m, rfl, BG, ht, tb, ix, g, m1000, k⟩ := h
    have hu := hu_of hr
    refine ⟨_, (pss_cons (ps_set (i := 3) sc__law_dealt.nd rfl (by first | exact Or.inl rfl | exact Or.inr rfl) pe_dnewK)
  (pss_cons (ps_set (i := 4) sc__law_dealt.nd rfl (by first | exact Or.inl rfl | exact Or.inr rfl) (pv 2))
  (pss_cons (ps_for PassesOwn.never rfl (pi_list (pv 1)) (pg_tup rfl (pgs_cons (pg_name (i := 5) sc__law_dealt.nd rfl (by first | exact Or.inl rfl | exact Or.inr rfl)) (pgs_cons (pg_name (i := 6) sc__law_dealt.nd rfl (by first | exact Or.inl rfl | exact Or.inr rfl)) pgs_nil)))
  (pss_cons (ps_set (i := 7) sc__law_dealt.nd rfl (by first | exact Or.inl rfl | exact Or.inr rfl) (pv 4))
  (C8.pss_cut (ps_if (PW.pt (pw_and (pt_cmpR op_ne (pv 5) (pe_ix ix_tup (pe_ix ix_list (pv 1) (pe_un un_neg pe_int) (fun _ _ => rfl)) pe_int (fun _ _ => rfl)) (nomark _)) (pw_and1 (pt_cmpR op_gt (pe_has G_pick (hr.mono (by omega)) (pa_cons (pv 0) (pa_cons pe_int pa_nil))) pe_int (nomark _)))))
  (pss_one (ps_set (i := 7) sc__law_dealt.nd rfl (by first | exact Or.inl rfl | exact Or.inr rfl) (pe_has G_pick (hr.mono (by omega)) (pa_cons (pv 0) (pa_cons (pe_op op_add (pv 4) pe_int) pa_nil)))))
  pss_nil)
  (pss_cons (ps_setLc (i := 8) (own := [("_law_k", 10)]) (g := gName 10) (by rfl) sc__law_dealt.nd rfl rfl (sw_true rfl rfl rfl (by decide +kernel)) (pi_range1 rfl B.range (pa_cons (pe_op op_add pe_int (pe_has G_pick (hr.mono (by omega)) (pa_cons (pv 0) (pa_cons pe_int pa_nil)))) pa_nil)) (blkOk_by (own := [("_law_k", 10)]) (N := N__law_dealt) (sc := defScope s__law_dealt) (by decide +kernel)) (fun _ _ _ _ _ => (pg_name (i := 10) sc__law_dealt.nd rfl (by first | exact Or.inl rfl | exact Or.inr rfl))) (fun _ _ _ _ _ => pts_nil) (fun _ _ _ _ _ => (pe_callTy (r := rTupO K) call_tuple_of (by rfl) B.tuple (by decide +kernel) (pa_cons (pe_lc (wi := iTup K (tVar 6)) (own := [("_law_field", 9)]) (g := gName 9) (by rfl) sc__law_dealt.nd (pi_tup (pv 6)) (blkOk_by (own := [("_law_field", 9)]) (N := N__law_dealt) (sc := ({ kind := ScopeKind.function, names := [(".0", .local), ("_law_k", .local), ("tuple", .globalImplicit), ("_law_bag_here", .cell), ("_law_fields", .cell)], isGenerator := false, isCoroutine := false } : Scope)) (by decide +kernel)) (fun _ _ _ _ _ => (pg_name (i := 9) sc__law_dealt.nd rfl (by first | exact Or.inl rfl | exact Or.inr rfl))) (fun _ _ _ _ _ => pts_nil) (fun _ _ _ _ _ => (pe_has G_value (hr.mono (by omega)) (pa_cons (pv 0) pa_nil)))) pa_nil))))
  (pss_cons (ps_dput hu (pv 3) (pv 5) (pe_slice sl_list (pe_op op_rep (pv 8) (pv 7)) po_none (po_some (pv 7))) rfl)
  (pss_one (ps_set (i := 4) sc__law_dealt.nd rfl (by first | exact Or.inl rfl | exact Or.inr rfl) (pe_op op_sub (pv 4) (pv 7)))))))))
  (pss_one (ps_ret (pv 3)))))), ?_⟩
    have el : xs.length = tbs.length := by rw [ix.len, List.length_map]
    have g1 := g.2.2.1
    have g5 := g.2.2.2
    intro D hD
    obtain ⟨Db, Dc⟩ := BG.new hD
    have k0 : Kp [] H (upd H D (.dK [])) := Kp.new hD
    refine ⟨_, rfl, _, rfl, t, rfl, ⟨_, SqL.of (k0.at_ _ _ ht (fun z => nomatch z))⟩, ?_⟩
    refine for_it (walk_list (xs := xs)) (fun i σ H' => ∃ (left : Nat) (o5 o6 o7 o8 : Option V), σ = [some (.ref b), some (.ref t), some (.int m), some (.ref D), some (.int left), o5, o6, o7, o8, none, none] ∧ Bag H' b c ∧ Kp [b] H H' ∧ ∃ kvs R, H' D = some (.dK kvs) ∧ KvL b H' kvs (tbs.take i) R ∧ GoodR (tbs.take i) R ∧ total R + left = m ∧ (i = tbs.length → left = 0))
      ⟨m, none, none, none, none, rfl, BG.keep0 k0, k0.zero, [], [], upd_same, .nil, ⟨rfl, fun i t r h => by cases h⟩, by simp [total], fun h => by omega⟩ (fun i σ H' _ h => by obtain ⟨_, _, _, _, _, _, _, k3, _⟩ := h; exact SqL.of (k3.at_ _ _ ht (by simpa using tb))) ?_ ?_
    · rintro i u σ H2 H3 hi ⟨left, o5, o6, o7, o8, rfl, B3, k3, kvs, R, hkv, KL, gR, tR, hend⟩ ⟨rfl, hu1⟩
      obtain ⟨a', b', tt, rfl, htt, e1, e2⟩ := tab_at' ix k3 hu1
      have gt := g.1 tt (List.mem_of_getElem? htt)
      refine ⟨a', _, rfl, SqT.of e1, rfl, _, _, rfl, _, _, rfl, rfl, ?_⟩
      refine ⟨_, rfl, ?_⟩
      refine ⟨fun σ H' => ∃ cnt : Nat, cnt ≤ left ∧ (i + 1 = tbs.length → cnt = left) ∧ σ = [some (.ref b), some (.ref t), some (.int m), some (.ref D), some (.int left), some (.str tt.1), some (.ref b'), some (.int cnt), o8, none, none] ∧ Bag H' b c ∧ Kp [b] H3 H', ?_, ?_⟩
      · -- how many
        obtain ⟨ul, hul⟩ : ∃ ul, xs[xs.length - 1]? = some ul := ⟨_, List.getElem?_eq_getElem (by omega)⟩
        obtain ⟨al, bl, tl, rfl, htl, el1, el2⟩ := tab_at' ix k3 hul
        have ht3 := k3.at_ _ _ ht (by simpa using tb)
        refine ⟨_, rfl, _, rfl, _, rfl, t, xs, -1, .ref al, rfl, rfl, SqL.of ht3, atI_end (n := xs.length - 1) (by omega) hul, al, _, _, .str tl.1, rfl, rfl, SqT.of el1, atI_nat (k := 0) rfl, rfl, _, rfl, ?_⟩
        have same : i + 1 = tbs.length → tt.1 = tl.1 := fun h => by
          have : i = xs.length - 1 := by omega
          rw [this, htl] at htt
          cases htt; rfl
        by_cases hne : tt.1 = tl.1
        · refine iteB (c := false) (by simp [hne]) (iteF (iteF ?_))
          exact ⟨left, Nat.le_refl _, fun _ => rfl, rfl, B3, Kp.refl _⟩
        · refine iteB (c := true) (by simp [hne]) (iteT ?_)
          refine ⟨_, rfl, b, c, 3, rfl, B3, by decide, by decide, fun r H4 r0 r1 B4 k4 => ⟨_, _, rfl, rfl, _, rfl, ?_⟩⟩
          refine ite2 (fun _ => ?_) (fun _ => ?_)
          · refine ⟨_, rfl, _, rfl, _, _, rfl, rfl, b, c, _, rfl, B4, by omega, by omega, fun r2 H5 r20 r21 B5 k5 => ?_⟩
            obtain ⟨cnt, rfl⟩ := Int.eq_ofNat_of_zero_le r20
            exact ⟨cnt, by omega, fun h => (hne (same h)).elim, rfl, B5, k4.trans k5⟩
          · exact ⟨left, Nat.le_refl _, fun _ => rfl, rfl, B4, k4⟩
      rintro σ H4 ⟨cnt, hcl, hce, rfl, B4, k4⟩
      refine ⟨_, rfl, b, c, 4, rfl, B4, by decide, by decide, fun r H5 r0 r1 B5 k5 => ⟨_, _, rfl, rfl, 1 + r, rfl, by omega, by omega, fun L hL => ?_⟩⟩
      obtain ⟨Lb, Lc⟩ := B5.new hL
      have k35 := (k3.trans k4).trans k5
      have e25 := (k4.trans k5).tp _ _ e2
      refine lc_range (lo := 0) (n := (1 + r).toNat) (fun q H' => ∃ (zs : List V) (rr : List (List Int)), H' L = some (.lst zs) ∧ ImAll H' 1 zs (rr.map dRow) ∧ rr.length = q ∧ (∀ x ∈ rr, x.length = tt.2.length ∧ ∀ n ∈ x, InV n) ∧ Bag H' b c ∧ Kp [b] H5 H') ⟨[], [], upd_same, .nil, rfl, (fun x h => nomatch h), B5.keep0 (Kp.new hL), Kp.new hL⟩ ?_ ?_
      · rintro q H6 hq ⟨zs, rr, hz, iz, lr, gx, B6, k6⟩
        have lz : zs.length = rr.length := by rw [iz.len, List.length_map]
        refine ⟨rfl, _, rfl, b', rfl, ⟨_, .inl (.inl (k6.tp _ _ e25))⟩, fun D2 hD2 => ?_⟩
        obtain ⟨D2b, D2c⟩ := B6.new hD2
        refine lc_it (walk_tup (xs := tt.2.map V.str)) (fun q2 H' => ∃ ns : List Int, H' D2 = some (.lst (ns.map V.int)) ∧ ns.length = q2 ∧ (∀ n ∈ ns, InV n) ∧ Bag H' b c ∧ Kp [b] H6 H') ⟨[], upd_same, rfl, (fun n h => nomatch h), B6.keep0 (Kp.new hD2), Kp.new hD2⟩ (fun q2 H' _ ⟨_, _, _, _, _, k7⟩ => .inl (.inl (k7.tp _ _ (k6.tp _ _ e25)))) (fun q2 u H7 H8 hq2 h7 hy => ?_) (fun H7 h7 => ?_)
        · obtain ⟨ns, h7, l7, g7, B7, k7⟩ := h7
          obtain ⟨rfl, _⟩ := hy
          refine ⟨rfl, _, rfl, b, c, rfl, B7, fun v H9 hv B9 k9 => ?_⟩
          have h9 := k9.at_ _ _ h7 (by simpa using D2b)
          rw [List.length_map] at hq2
          have := gt.2.2.2.2
          refine ⟨_, h9, by rw [List.length_map, l7]; show _ < 16777216; omega, ns ++ [v], by rw [List.map_append]; exact upd_same, by simp [l7], fun n hn => ?_, B9.keep (ms := [D2]) (Kp.updL h9 (by simp)) (by simpa using Ne.symm D2b) (by simpa using Ne.symm D2c), (k7.trans k9).late hD2⟩
          rcases List.mem_append.mp hn with h | h
          · exact g7 n h
          · rw [List.mem_singleton.mp h]; exact hv
        · obtain ⟨ns, h7, l7, g7, B7, k7⟩ := h7
          rw [List.length_map] at l7
          refine ⟨D2, _, rfl, .inl ⟨SqL.of h7, fun nw hnw => ?_⟩⟩
          have m1 := Kp.new (ms := []) (o := .tup (ns.map V.int)) hnw
          have k68 : Kp [b] H6 (upd H7 nw (.tup (ns.map V.int))) := k7.trans m1.zero
          have hz8 := k68.at_ _ _ hz (by simpa using Lb)
          have B8 := B7.keep0 m1
          refine ⟨_, hz8, by show _ < 16777216; omega, zs ++ [.ref nw], rr ++ [ns], upd_same, ?_, by simp [lr], fun x hx => ?_, B8.keep (ms := [L]) (Kp.updL hz8 (by simp)) (by simpa using Ne.symm Lb) (by simpa using Ne.symm Lc), (k6.trans k68).late hL⟩
          · have kL : Kp [L] (upd H7 nw (.tup (ns.map V.int))) (upd (upd H7 nw (.tup (ns.map V.int))) L (.lst (zs ++ [.ref nw]))) := Kp.updL hz8 (by simp)
            have n9 := kL.tp _ _ (upd_same (H := H7) (a := nw) (o := .tup (ns.map V.int)))
            rw [List.map_append]
            exact (ImAll.kp kL (ImAll.kp k68 iz)).append (.cons (.tup n9 ⟨by rw [List.length_map, l7]; have := gt.2.2.2.2; omega, ⟨_, n9⟩⟩ (dtAll_ints ns)) .nil)
          · rcases List.mem_append.mp hx with h | h
            · exact gx x h
            · rw [List.mem_singleton.mp h]; exact ⟨l7, g7⟩
      rintro H6 ⟨zs, rr, hz, iz, lr, gx, B6, k6⟩
      have lz : zs.length = rr.length := by rw [iz.len, List.length_map]
      have l14 : 1 ≤ rr.length ∧ rr.length ≤ 4 := by omega
      have lrep := rep_len cnt zs
      have lrepr := rep_len cnt rr
      have le4 : cnt * zs.length ≤ cnt * 4 := Nat.mul_le_mul_left _ (by omega)
      have ge1 : cnt * 1 ≤ cnt * rr.length := Nat.mul_le_mul_left _ l14.1
      refine ⟨_, rfl, _, rfl, L, (cnt : Int), zs, rfl, rfl, hz, by omega, by omega, by show _ ≤ 16777216; rw [Int.toNat_natCast, Nat.mul_comm]; omega, fun p hp => ?_⟩
      rw [Int.toNat_natCast]
      have m1 := Kp.new (ms := []) (o := .lst (List.replicate cnt zs).flatten) hp
      refine ⟨_, rfl, _, rfl, p, _, rfl, SqL.of upd_same, fun p2 hp2 => ?_⟩
      have c1e : cutV (List.replicate cnt zs).flatten none (some (cnt : Int)) = (List.replicate cnt zs).flatten.take cnt := cut_take (by rw [lrep, lz]; omega)
      rw [c1e]
      have m2 := m1.snoc (o := .lst ((List.replicate cnt zs).flatten.take cnt)) hp2
      have k37 := (k35.trans k6).trans m2.zero
      have hkv7 := m2.at_ _ _ (k6.at_ _ _ ((k4.trans k5).at_ _ _ hkv (by simpa using Db)) (by simpa using Db)) (fun z => nomatch z)
      have lkv : kvs.length ≤ 5 := by rw [KL.g.len, List.length_take]; omega
      refine ⟨_, rfl, _, rfl, D, _, rfl, .inl ⟨kvs, .inr tt.1, hkv7, rfl, by show _ < 16777216; omega, rfl⟩, ?_⟩
      have xn : tt.1 ∉ (tbs.take i).map (·.1) := by rw [List.map_take]; exact notin_take g.2.1 (by rw [List.getElem?_map, htt]; rfl)
      have nk : valV kvs (.inr tt.1) = none := valV_out (by
        rw [KL.g.keys]
        intro hm
        obtain ⟨u, hu, e⟩ := List.mem_map.mp hm
        exact xn (List.mem_map.mpr ⟨u, hu, Sum.inr.inj e⟩))
      rw [putK_new _ nk]
      have kD : Kp [D] _ (upd (upd (upd H6 p (.lst (List.replicate cnt zs).flatten)) p2 (.lst ((List.replicate cnt zs).flatten.take cnt))) D (.dK (kvs ++ [(.inr tt.1, .ref p2)]))) := Kp.set hkv7 (fun _ z => by cases z) (by simp)
      have p2b : p2 ≠ b := ((B6.keep0 m1).new hp2).1
      have p2D : p2 ≠ D := fun z => by rw [z, m1.at_ _ _ (k6.at_ _ _ ((k4.trans k5).at_ _ _ hkv (by simpa using Db)) (by simpa using Db)) (fun z => nomatch z)] at hp2; cases hp2
      have B7 := (B6.keep0 m2).keep (ms := [D]) kD (by simpa using Ne.symm Db) (by simpa using Ne.symm Dc)
      refine ⟨_, rfl, _, rfl, _, _, rfl, rfl, ?_⟩
      refine ⟨left - cnt, some (.str tt.1), some (.ref b'), some (.int cnt), some (.ref L), by rw [Int.natCast_sub hcl]; rfl, B7, k37.late hD, _, R ++ [(List.replicate cnt rr).flatten.take cnt], upd_same, ?_, ?_, ?_, fun h => by have := hce h; omega⟩
      · rw [take_snoc htt]
        have kall : Kp [b] H3 (upd (upd H6 p (.lst (List.replicate cnt zs).flatten)) p2 (.lst ((List.replicate cnt zs).flatten.take cnt))) := ((k4.trans k5).trans k6).trans m2.zero
        refine ((KL.bag kall).dict hkv7 kD).snoc ⟨p2, _, rfl, p2b, by rw [upd_ne p2D]; exact upd_same, by rw [List.length_take]; omega, ?_⟩
        have i7 := ImAll.kp kD (ImAll.kp m2 iz)
        have := (i7.rep cnt).take cnt
        rw [rep_map] at this
        rw [List.map_take]
        exact this
      · rw [take_snoc htt]
        refine ⟨by rw [List.length_append, List.length_append, gR.1]; rfl, fun q t' r' h1 h2 x hx => ?_⟩
        have lt := gR.1
        by_cases hq : q < R.length
        · rw [List.getElem?_append_left (by rw [lt]; exact hq)] at h1
          rw [List.getElem?_append_left hq] at h2
          exact gR.2 q t' r' h1 h2 x hx
        · have hq2 : q = R.length := by
            have := (List.getElem?_eq_some_iff.mp h2).1
            rw [List.length_append] at this
            simp only [List.length_cons, List.length_nil] at this
            omega
          subst hq2
          rw [List.getElem?_append_right (by omega), lt, Nat.sub_self] at h1
          rw [List.getElem?_append_right (by omega), Nat.sub_self] at h2
          cases h1
          cases h2
          exact gx x (rep_mem (List.mem_of_mem_take hx))
      · have : ((List.replicate cnt rr).flatten.take cnt).length = cnt := by rw [List.length_take, lrepr]; omega
        unfold total
        rw [List.map_append, List.sum_append]
        simp only [List.map_cons, List.map_nil, List.sum_cons, List.sum_nil, this]
        unfold total at tR
        omega
    · rintro σ H3 ⟨left, o5, o6, o7, o8, rfl, B3, k3, kvs, R, hkv, KL, gR, tR, hend⟩
      rw [el, List.take_length] at KL gR
      have := hend el
      exact ⟨_, rfl, k D R H3 B3 k3 hD ⟨Db, kvs, hkv, KL⟩ gR (by omega)⟩
end
end Fm

namespace Fm
open PySem PySem.Spec PyProof.Rows L2
theorem RowD.inj {d : PyData} {ds es : List PyData} (h : RowD d ds) (h' : RowD d es) : ds = es := by
  rcases h with rfl | rfl <;> rcases h' with e | e <;> cases e <;> rfl
theorem ShpD.inj {d : PyData} {ts ts' : List (Str × List Str)} (h : ShpD d ts) (h' : ShpD d ts') : ts = ts' := by
  obtain ⟨ds, r, _, _, t, _⟩ := h
  obtain ⟨ds', r', _, _, t', _⟩ := h'
  rw [r'.inj r] at t'
  exact t.inj t'
theorem TabsD.upto : ∀ {ds : List PyData} {ts : List (Str × List Str)}, TabsD ds ts → ∀ {k : Nat} {us : List (Str × List Str)}, TabsD (ds.take k) us → us = ts.take k := fun h k us h' => h'.inj (h.take k)
theorem ShpD.bad {d : PyData} {ts : List (Str × List Str)} {i : Int} (h : ShpD d ts) (h' : ShpBad d i) : False := by
  obtain ⟨ds, r, g1, g2, t, nd⟩ := h
  rcases h' with ⟨_, h'⟩ | ⟨es, k, e, us, r', _, _, _, he, hu, _, hno⟩
  · exact h' ⟨ds, r, g1, g2⟩
  · rw [r'.inj r] at he hu
    obtain ⟨t1, ht1, td⟩ := t.get he
    refine hno ⟨t1, td, ?_⟩
    rw [t.upto hu, List.map_take]
    exact notin_take nd (by rw [List.getElem?_map, ht1]; rfl)
theorem tabs_dTab : ∀ {tbs : List (Str × List Str)}, (∀ t ∈ tbs, GoodT t) → TabsD (tbs.map dTab) tbs
  | [], _ => .nil
  | t :: ts, h => by
    have g := h t List.mem_cons_self
    exact .cons ⟨_, rfl, g.1, .inr rfl, g.2.1, g.2.2.1, g.2.2.2.1, g.2.2.2.2⟩ (tabs_dTab fun x hx => h x (List.mem_cons_of_mem _ hx))
theorem shp_list {tbs : List (Str × List Str)} (g : GoodTs tbs) : ShpD (.list (tbs.map dTab)) tbs := ⟨_, .inl rfl, by rw [List.length_map]; exact g.2.2.1, by rw [List.length_map]; exact g.2.2.2, tabs_dTab g.1, g.2.1⟩
theorem shape_mk {C CE : Addr} {S : Addr → Prop} {q : Bool} {H : Hp} {n : Nat} {v : V} {d : PyData} {tbs : List (Str × List Str)} {R : Hp → Prop} {E : XK} {x dx : Addr} (hx : H x = none) (hdx : H dx = none) (ne : dx ≠ x) (hd : Dt S q H n v d) (hs : ShpD d tbs) (k : ∀ H', Kp [] H H' → ShapeAt C H' x tbs → R H') :
    spShapeI C CE [.ref x, v] (upd (upd H dx (.own x)) x (.ins C dx [])) (fun u H2 => u = .non ∧ R H2) E := by
  have k0 : Kp [] H (upd (upd H dx (.own x)) x (.ins C dx [])) := (Kp.new hdx).snoc (by rw [upd_ne (Ne.symm ne)]; exact hx)
  refine ⟨x, dx, S, q, n, v, d, rfl, upd_same, hd.keep k0, fun us H' hu k' sa => ⟨rfl, ?_⟩, fun i dd H' b _ _ _ => (hs.bad b).elim⟩
  rw [hu.inj hs] at sa
  exact k H' (k0.via k' (by simp [hx])) sa
theorem StAt.dict {C CS b D : Addr} {H H' : Hp} {p ps : Addr} {tbs : List (Str × List Str)} {R R' : List (List (List Int))} {kw : List (Key × V)} (h : StAt C CS H p ps tbs R) (hD : H D = some (.dK kw)) (KL : KvL b H kw tbs R') (ne : 1 ≤ tbs.length) (k : Kp [D] H H') : StAt C CS H' p ps tbs R := by
  obtain ⟨dx, kd, kvs, h1, h2, h3, h4⟩ := h
  obtain ⟨sx, sv, s1, s2⟩ := id h2
  have hk : kd ≠ D := fun z => by
    rw [z, hD] at h3
    cases h3
    obtain ⟨t, ht⟩ : ∃ t, tbs[0]? = some t := ⟨_, List.getElem?_eq_getElem (by omega)⟩
    obtain ⟨v, r, a1, _, c1⟩ := h4.get ht
    obtain ⟨v', r', a2, _, c2⟩ := KL.get ht
    rw [a1] at a2
    cases a2
    obtain ⟨x, xs, rfl, hx, _⟩ := c1.rows
    obtain ⟨y, ys, e, _, hy, _⟩ := c2
    cases e
    rw [hx] at hy; cases hy
  exact ⟨dx, kd, kvs, k.at_ _ _ h1 (by simpa using fun z => by rw [z, hD] at h1; cases h1), h2.kp k (by simpa using fun z => by rw [z, hD] at s1; cases s1), k.at_ _ _ h3 (by simpa using hk), h4.kp k⟩

theorem ShapeAt.bag {C : Addr} {H H' : Hp} {b c s : Addr} {tbs : List (Str × List Str)} (h : ShapeAt C H s tbs) (B : Bag H b c) (k : Kp [b] H H') : ShapeAt C H' s tbs := by
  refine h.kp k ?_
  obtain ⟨_, _, s1, _⟩ := id h
  obtain ⟨_, _, _, _, _, hbb, _⟩ := B.bg
  simpa using fun z => by rw [z, hbb] at s1; cases s1
/-- what stands all along -/
structure Sit (CS b t s d : Addr) (xs : List V) (tbs : List (Str × List Str)) (R : List (List (List Int))) (H : Hp) : Prop where
  et : H t = some (.lst xs)
  it : ImAll H 2 xs (tbs.map dTab)
  SA : ShapeAt CS H s tbs
  DA : DueAt b H d tbs R
theorem Sit.bag {CS b c t s d : Addr} {xs : List V} {tbs : List (Str × List Str)} {R : List (List (List Int))} {H H' : Hp} (h : Sit CS b t s d xs tbs R H) (tb : t ≠ b) (B : Bag H b c) (k : Kp [b] H H') : Sit CS b t s d xs tbs R H' :=
  ⟨k.at_ _ _ h.et (by simpa using tb), ImAll.kp k h.it, h.SA.bag B k, h.DA.bag k⟩
theorem Sit.kp {CS b t s d : Addr} {xs : List V} {tbs : List (Str × List Str)} {R : List (List (List Int))} {H H' : Hp} (h : Sit CS b t s d xs tbs R H) (k : Kp [] H H') : Sit CS b t s d xs tbs R H' :=
  ⟨k.at_ _ _ h.et (fun z => nomatch z), ImAll.kp k h.it, h.SA.kp k (fun z => nomatch z), h.DA.bag (k.zero (ms := [b]))⟩
/-- the rows of one table, as the law's dict holds them -/
theorem Sit.rows {CS b t s d : Addr} {xs : List V} {tbs : List (Str × List Str)} {R : List (List (List Int))} {H : Hp} (h : Sit CS b t s d xs tbs R H) (g : GoodTs tbs) {i : Nat} {tt : Str × List Str} (htt : tbs[i]? = some tt) :
    ∃ kvs ka kxs r, H d = some (.dK kvs) ∧ KvL b H kvs tbs R ∧ valV kvs (.inr tt.1) = some (.ref ka) ∧ R[i]? = some r ∧ ka ≠ b ∧ H ka = some (.lst kxs) ∧ ImAll H 1 kxs (r.map dRow) ∧ kxs.length = r.length := by
  obtain ⟨db, kvs, hd, KL⟩ := h.DA
  obtain ⟨v, r, hv, hr1, ka, kxs, rfl, kab, hka, lka, ika⟩ := KL.val g.2.1 htt
  exact ⟨kvs, ka, kxs, r, hd, KL, hv, hr1, kab, hka, ika, by rw [ika.len, List.length_map]⟩
/-- one table's list changed, in the law's dict -/
theorem Sit.put {CS b c t s d : Addr} {xs : List V} {tbs : List (Str × List Str)} {R : List (List (List Int))} {H : Hp} (h : Sit CS b t s d xs tbs R H) (g : GoodTs tbs) {i : Nat} {tt : Str × List Str} (htt : tbs[i]? = some tt) {kvs : List (Key × V)} (hd : H d = some (.dK kvs)) (KL : KvL b H kvs tbs R) {y : Addr} {r' : List (List Int)} (hy : LsAt b H (.ref y) r') (B : Bag H b c) :
    Sit CS b t s d xs tbs (R.set i r') (upd H d (.dK (putK kvs (.inr tt.1) (.ref y)))) ∧ Bag (upd H d (.dK (putK kvs (.inr tt.1) (.ref y)))) b c ∧ Kp [d] H (upd H d (.dK (putK kvs (.inr tt.1) (.ref y)))) := by
  have kD : Kp [d] H (upd H d (.dK (putK kvs (.inr tt.1) (.ref y)))) := Kp.set hd (fun _ z => by cases z) (by simp)
  obtain ⟨_, _, s1, _⟩ := id h.SA
  have db := h.DA.1
  obtain ⟨cs, hcs, _⟩ := B.cl
  refine ⟨⟨kD.at_ _ _ h.et (by simpa using fun z => by have := h.et; rw [z, hd] at this; cases this), ImAll.kp kD h.it, h.SA.kp kD (by simpa using fun z => by rw [z, hd] at s1; cases s1), ⟨db, _, upd_same, (KL.dict hd kD).put (hy.dict hd kD) g.2.1 htt⟩⟩, B.keep kD (by simpa using Ne.symm db) (by simpa using fun z => by rw [z, hd] at hcs; cases hcs), kD⟩
theorem tag_dt {S : Addr → Prop} {H : Hp} {q : Addr} {n : Nat} {z : Str} {v : V} {e : PyData} (hq : H q = some (.tup [.str z, v])) (hz : z.length ≤ 1000000) (h : Dt S true H n v e) : Dt (fun _ => True) true H (n + 1) (.ref q) (.tuple [.str z, e]) :=
  .tup hq ⟨by simp, trivial⟩ (.cons (.str z hz) (.cons (h.imp fun _ _ => trivial) .nil))
theorem two_dt {H : Hp} {q : Addr} {v : V} {e : PyData} {i : Int} (hq : H q = some (.tup [v, .int i])) (h : Dt (fun _ => True) true H 0 v e) : Dt (fun _ => True) true H 1 (.ref q) (.tuple [e, .int i]) :=
  .tup hq ⟨by simp, trivial⟩ (.cons h (.cons (.int i) .nil))
theorem no_Z {tbs : List (Str × List Str)} (g : GoodTs tbs) : ∀ t ∈ tbs, PyData.str "Z" ≠ .str t.1 := fun t ht e => by
  have h := (g.1 t ht).1
  injection e with e
  rw [← e] at h
  have := (h.2.2 90 (by decide +kernel)).1
  omega
theorem no_zz {tbs : List (Str × List Str)} (g : GoodTs tbs) : ∀ t ∈ tbs, ("zzzzzzzzz" : Str) ≠ t.1 := fun t ht e => by
  have h := (g.1 t ht).1.2.1
  rw [← e] at h
  exact absurd h (by decide +kernel)
theorem no_vals {m : Nat} {ns us : List Int} (h : ValsD m (.tuple (ns.map .int)) us) (hl : ns.length ≠ m) : False := by
  obtain ⟨r, l, _⟩ := h
  rcases r with r | r
  · cases r
  · injection r with r
    have := congrArg List.length r
    rw [List.length_map, List.length_map] at this
    omega
theorem rep_one (n : Nat) : (List.replicate n ([V.int 1] : List V)).flatten = (List.replicate n (1 : Int)).map V.int := by
  rw [List.map_replicate]
  induction n with
  | zero => rfl
  | succ n ih => rw [List.replicate_succ, List.flatten_cons, ih, List.replicate_succ]; rfl
/-- the rows with a wrong one in the place of one -/
theorem bad_row {b : Addr} {H : Hp} {kvs : List (Key × V)} {tbs : List (Str × List Str)} {R : List (List (List Int))} (KL : KvL b H kvs tbs R) (g : GoodTs tbs) (gr : GoodR tbs R) {i j : Nat} {tt : Str × List Str} {r : List (List Int)} (htt : tbs[i]? = some tt) (hr : R[i]? = some r) (hj : j < r.length) {y : Addr} {ys : List V} {ns : List Int} (hy : H y = some (.lst ys)) (iy : ImAll H 1 ys ((r.take j ++ [ns] ++ r.drop (j + 1)).map dRow)) (hl : ns.length ≠ tt.2.length) (lr : r.length ≤ 1000) :
    BadRw H (putK kvs (.inr tt.1) (.ref y)) tbs (.str tt.1) j := by
  have hm : (Sum.inr tt.1 : Key) ∈ kvs.map (·.1) := by rw [KL.g.keys]; exact List.mem_map.mpr ⟨tt, List.mem_of_getElem? htt, rfl⟩
  have lj : (r.take j).length = j := by rw [List.length_take]; omega
  refine .inr ⟨fun kv hkv => ?_, i, j, tt, R.take i, htt, ?_, ?_, rfl, rfl⟩
  · have h1 : kv.1 ∈ (putK kvs (.inr tt.1) (.ref y)).map (·.1) := List.mem_map.mpr ⟨kv, hkv, rfl⟩
    rw [putK_keys hm, KL.g.keys] at h1
    obtain ⟨u, hu, e⟩ := List.mem_map.mp h1
    exact ⟨u, hu, e.symm⟩
  · refine InAll.of (by rw [List.length_take, List.length_take, gr.1]) fun q t' r' h1 h2 => ?_
    rw [List.getElem?_take] at h1 h2
    split at h1
    · rename_i hq
      rw [if_pos hq] at h2
      obtain ⟨v, r2, hv, hr2, LA⟩ := KL.val g.2.1 h1
      rw [h2] at hr2
      cases hr2
      refine .inl ⟨v, ?_, _, _, LA.dt.weak, .inl rfl, vals_of (gr.2 q t' r' h1 h2)⟩
      rw [valV_put, if_neg]
      · exact hv
      · intro e
        have := nd_ne g.2.1 h1 htt (Sum.inr.inj e)
        omega
    · cases h1
  · refine ⟨2, .ref y, _, _, dRow ns, by rw [valV_put, if_pos rfl], .lst (.inl hy) ⟨by rw [iy.len, List.length_map, List.length_append, List.length_append, List.length_take, List.length_drop]; simp only [List.length_cons, List.length_nil]; omega, trivial⟩ ((iy.imp fun _ _ => trivial).weak), .inl rfl, ?_, fun q z hq hz => ?_, fun ⟨us, h⟩ => no_vals h hl⟩
    · rw [List.getElem?_map, List.getElem?_append_left (by rw [List.length_append, lj]; simp), List.getElem?_append_right (by omega), lj, Nat.sub_self]; rfl
    · rw [List.getElem?_map, List.getElem?_append_left (by rw [List.length_append, lj]; simp; omega), List.getElem?_append_left (by omega), List.getElem?_take, if_pos hq] at hz
      cases e : r[q]? with
      | none => rw [e] at hz; cases hz
      | some x =>
        rw [e] at hz
        cases hz
        have := gr.2 i tt r htt hr x (List.mem_of_getElem? e)
        exact ⟨x, .inr rfl, this.1, this.2⟩
def spLaw (K : PySem.W.Frag) : Sp := fun vs H Q _ => ∃ (a : Addr) (ns : List Int), vs = [.ref a] ∧ SqL K H a (ns.map V.int) ∧ ∀ H', Q (.bl true) H'
end Fm

namespace Fm
open PySem PySem.Spec PyProof.Rows L2
section
variable {P : Program} {w : World} {K : PySem.W.Frag} {mg : Str → Option Value} {base : Heap}
theorem ok_law {f C CS CE CN CI fI fO : Addr} {fd fdI fdO : FuncData} (B : Bi mg) (F : Fun K "law" "law" s_law f fd) (T : ShCls K mg CS) (U : StCls K mg C) (MS : Mk K CS fI) (GI : FnOk P w K mg base (L2.CX P w) 4 fI fdI ["self", "tables"] (spShapeI CS CE)) (bI : Binds K fdI ["self", "tables"] [])
    (GO : FnOk P w K mg base (L2.CX P w) 7 fO fdO ["self", "name", "at"] (spWoG C CS CN CI)) (bO : Binds K fdO ["self", "name", "at"] []) (mO : Meth K C "without_row" fO)
    (G_bag : Has P w K mg base CX0 "_law_bag" ["_law_script"] 1 (spBag K)) (G_pick : Has P w K mg base CX0 "_law_pick" ["_law_bag_here", "_law_many"] 1 spPick) (G_value : Has P w K mg base CX0 "_law_value" ["_law_bag_here"] 2 spValue) (G_tables : Has P w K mg base CX0 "_law_tables" ["_law_bag_here"] 3 spTables) (G_dealt : Has P w K mg base CX0 "_law_dealt" ["_law_bag_here", "_law_tables_here", "_law_many"] 3 spDealt)
    (G_alike : Has P w K mg base CX0 "_law_alike" ["_law_one", "_law_other"] 4 (spAlike 3)) (G_tells : Has P w K mg base CX0 "_law_tells" ["_law_store", "_law_tables_here", "_law_rows"] 5 (spTells7 C CS)) (G_made : Has P w K mg base CX0 "_law_made" ["_law_shape", "_law_rows"] 7 (spMade7 C CS)) (G_put : Has P w K mg base CX0 "_law_put" ["_law_store", "_law_name_here", "_law_row"] 8 (spPut7 C CS)) :
    FnOk P w K mg base CX0 9 f fd ["_law_script"] (spLaw K) := by
  refine F.ok sc_law (fun vs H Q E h => ?_) (fun cdv A outer s0 H vs Q E hr h => ?_)
  · obtain ⟨a, ns, rfl, _⟩ := h; rfl
  · obtain ⟨a, ns0, rfl, hS, k⟩ := h
    have hu := hu_of hr
    refine ⟨_, (pss_cons (ps_set (i := 1) sc_law.nd rfl (by first | exact Or.inl rfl | exact Or.inr rfl) (pe_has G_bag (hr.mono (by omega)) (pa_cons (pv 0) pa_nil)))
  (pss_cons (ps_set (i := 2) sc_law.nd rfl (by first | exact Or.inl rfl | exact Or.inr rfl) (pe_has G_tables (hr.mono (by omega)) (pa_cons (pv 1) pa_nil)))
  (pss_cons (ps_set (i := 3) sc_law.nd rfl (by first | exact Or.inl rfl | exact Or.inr rfl) (pe_make (E := E0) MS GI (hr.mono (by omega)) rfl T.mgC bI .nil passL (pa_cons (pv 2) pa_nil)))
  (pss_cons (ps_set (i := 4) sc_law.nd rfl (by first | exact Or.inl rfl | exact Or.inr rfl) (pe_op op_add pe_int (pe_has G_pick (hr.mono (by omega)) (pa_cons (pv 1) (pa_cons pe_int pa_nil)))))
  (pss_cons (ps_set (i := 5) sc_law.nd rfl (by first | exact Or.inl rfl | exact Or.inr rfl) (pe_has G_dealt (hr.mono (by omega)) (pa_cons (pv 1) (pa_cons (pv 2) (pa_cons (pv 4) pa_nil)))))
  (pss_cons (ps_asg (pe_ix ix_list (pv 2) (pe_has G_pick (hr.mono (by omega)) (pa_cons (pv 1) (pa_cons (pe_callB call_len (by rfl) B.len PySem.boot_len (pa_cons (pv 2) pa_nil)) pa_nil))) (fun _ _ => rfl)) (pg_tup rfl (pgs_cons (pg_name (i := 6) sc_law.nd rfl (by first | exact Or.inl rfl | exact Or.inr rfl)) (pgs_cons (pg_name (i := 7) sc_law.nd rfl (by first | exact Or.inl rfl | exact Or.inr rfl)) pgs_nil))))
  (C8.pss_cut (ps_if (PW.pt (pw_and (pt_cmpR op_eq (pe_has G_pick (hr.mono (by omega)) (pa_cons (pv 1) (pa_cons pe_int pa_nil))) pe_int (nomark _)) (pw_and1 (pt_cmpR op_gt (pe_callB call_len (by rfl) B.len PySem.boot_len (pa_cons (pe_dget hu (pv 5) (pv 6) (fun _ _ => rfl)) pa_nil)) pe_int (nomark _)))))
  (pss_cons (ps_set (i := 8) sc_law.nd rfl (by first | exact Or.inl rfl | exact Or.inr rfl) (pe_has G_pick (hr.mono (by omega)) (pa_cons (pv 1) (pa_cons (pe_callB call_len (by rfl) B.len PySem.boot_len (pa_cons (pe_dget hu (pv 5) (pv 6) (fun _ _ => rfl)) pa_nil)) pa_nil))))
  (pss_cons (ps_set (i := 9) sc_law.nd rfl (by first | exact Or.inl rfl | exact Or.inr rfl) (pe_callTy call_dictD (by rfl) B.dict (by decide +kernel) (pa_cons (pv 5) pa_nil)))
  (pss_cons (ps_dput hu (pv 9) (pv 6) (pe_op op_cat (pe_op op_cat (pe_slice sl_list (pe_dget hu (pv 5) (pv 6) (fun _ _ => rfl)) po_none (po_some (pv 8))) (pe_lst (pa_cons (pe_op op_repT (pe_tup (pa_cons pe_int pa_nil)) (pe_op op_add (pe_callB call_len (by rfl) B.len PySem.boot_len (pa_cons (pv 7) pa_nil)) pe_int)) pa_nil))) (pe_slice sl_list (pe_dget hu (pv 5) (pv 6) (fun _ _ => rfl)) (po_some (pe_op op_add (pv 8) pe_int)) po_none)) rfl)
  (pss_cons (ps_if (pt_not (pt_val (pe_has G_alike (hr.mono (by omega)) (pa_cons (pe_has G_made (hr.mono (by omega)) (pa_cons (pv 3) (pa_cons (pv 9) pa_nil))) (pa_cons (pe_tup (pa_cons pe_str (pa_cons (pe_tup (pa_cons (pv 6) (pa_cons (pv 8) pa_nil))) pa_nil))) pa_nil)))))
  (pss_one (ps_ret pe_bl))
  pss_nil)
  (pss_cons (ps_dput hu (pv 9) pe_str (pe_lst pa_nil) rfl)
  (pss_one (ps_if (pt_not (pt_val (pe_has G_alike (hr.mono (by omega)) (pa_cons (pe_has G_made (hr.mono (by omega)) (pa_cons (pv 3) (pa_cons (pv 9) pa_nil))) (pa_cons (pe_tup (pa_cons pe_str (pa_cons (pe_tup (pa_cons pe_non (pa_cons (pe_un un_neg pe_int) pa_nil))) pa_nil))) pa_nil)))))
  (pss_one (ps_ret pe_bl))
  pss_nil)))))))
  pss_nil)
  (pss_cons (ps_set (i := 10) sc_law.nd rfl (by first | exact Or.inl rfl | exact Or.inr rfl) (pe_has G_made (hr.mono (by omega)) (pa_cons (pv 3) (pa_cons (pv 5) pa_nil))))
  (pss_cons (ps_if (pt_cmpR op_gt (pv 4) pe_int (nomark _))
  (pss_one (ps_ret (pe_cmpR (op_eqD hr.units) (pv 10) (pe_tup (pa_cons pe_str pa_nil)) (nomark _))))
  pss_nil)
  (pss_cons (ps_if (PW.pt (pw_or (pt_cmpR op_ne (pe_ix ix_tup (pv 10) pe_int (fun _ _ => rfl)) pe_str (nomark _)) (pw_or1 (pt_not (pt_val (pe_has G_tells (hr.mono (by omega)) (pa_cons (pe_ix ix_tup (pv 10) pe_int (fun _ _ => rfl)) (pa_cons (pv 2) (pa_cons (pv 5) pa_nil)))))))))
  (pss_one (ps_ret pe_bl))
  pss_nil)
  (pss_cons (ps_set (i := 11) sc_law.nd rfl (by first | exact Or.inl rfl | exact Or.inr rfl) (pe_ix ix_tup (pv 10) pe_int (fun _ _ => rfl)))
  (pss_cons (ps_set (i := 12) sc_law.nd rfl (by first | exact Or.inl rfl | exact Or.inr rfl) (pe_callTy call_tuple_of (by rfl) B.tuple (by decide +kernel) (pa_cons (pe_lc (own := [("_law_field", 14)]) (g := gName 14) (by rfl) sc_law.nd (pi_tup (pv 7)) (blkOk_by (own := [("_law_field", 14)]) (N := N_law) (sc := defScope s_law) (by decide +kernel)) (fun _ _ _ _ _ => (pg_name (i := 14) sc_law.nd rfl (by first | exact Or.inl rfl | exact Or.inr rfl))) (fun _ _ _ _ _ => pts_nil) (fun _ _ _ _ _ => (pe_has G_value (hr.mono (by omega)) (pa_cons (pv 1) pa_nil)))) pa_nil)))
  (pss_cons (ps_for PassesOwn.never rfl (pi_range1 rfl B.range (pa_cons pe_int pa_nil)) (pg_name (i := 13) sc_law.nd rfl (by first | exact Or.inl rfl | exact Or.inr rfl))
  (pss_cons (ps_if (pt_not (pt_val (pe_has G_alike (hr.mono (by omega)) (pa_cons (pe_has G_put (hr.mono (by omega)) (pa_cons (pv 11) (pa_cons (pv 6) (pa_cons (pe_op op_catT (pv 12) (pe_tup (pa_cons pe_int pa_nil))) pa_nil)))) (pa_cons (pe_tup (pa_cons pe_str (pa_cons (pe_tup (pa_cons (pv 6) (pa_cons (pe_callB call_len (by rfl) B.len PySem.boot_len (pa_cons (pe_dget hu (pv 5) (pv 6) (fun _ _ => rfl)) pa_nil)) pa_nil))) pa_nil))) pa_nil)))))
  (pss_one (ps_ret pe_bl))
  pss_nil)
  (pss_cons (ps_if (pt_not (pt_val (pe_has G_alike (hr.mono (by omega)) (pa_cons (pe_has G_put (hr.mono (by omega)) (pa_cons (pv 11) (pa_cons pe_str (pa_cons (pv 12) pa_nil)))) (pa_cons (pe_tup (pa_cons pe_str (pa_cons pe_str pa_nil))) pa_nil)))))
  (pss_one (ps_ret pe_bl))
  pss_nil)
  (C8.pss_cut (ps_set (i := 10) sc_law.nd rfl (by first | exact Or.inl rfl | exact Or.inr rfl) (pe_has G_put (hr.mono (by omega)) (pa_cons (pv 11) (pa_cons (pv 6) (pa_cons (pv 12) pa_nil)))))
  (C8.pss_cut (ps_if (pt_cmpR op_eq (pv 4) pe_int (nomark _))
  (pss_cons (ps_if (PW.pt (pw_or (pt_cmpR (op_neD hr.units) (pv 10) (pe_tup (pa_cons pe_str pa_nil)) (nomark _)) (pw_or1 (pt_not (pt_val (pe_has G_tells (hr.mono (by omega)) (pa_cons (pv 11) (pa_cons (pv 2) (pa_cons (pv 5) pa_nil)))))))))
  (pss_one (ps_ret pe_bl))
  pss_nil)
  (pss_cons (ps_if (pt_cmpR op_eq (pe_callB call_len (by rfl) B.len PySem.boot_len (pa_cons (pe_dget hu (pv 5) (pv 6) (fun _ _ => rfl)) pa_nil)) pe_int (nomark _))
  (pss_one (ps_ret pe_bl))
  pss_nil)
  (pss_cons (ps_set (i := 8) sc_law.nd rfl (by first | exact Or.inl rfl | exact Or.inr rfl) (pe_has G_pick (hr.mono (by omega)) (pa_cons (pv 1) (pa_cons (pe_callB call_len (by rfl) B.len PySem.boot_len (pa_cons (pe_dget hu (pv 5) (pv 6) (fun _ _ => rfl)) pa_nil)) pa_nil))))
  (pss_cons (ps_set (i := 11) sc_law.nd rfl (by first | exact Or.inl rfl | exact Or.inr rfl) (pe_meth (E := E0) (pv 11) U.cl mO GO (hr.mono (by omega)) bO .nil passL (pa_cons (pv 6) (pa_cons (pv 8) pa_nil))))
  (pss_cons (ps_dput hu (pv 5) (pv 6) (pe_op op_cat (pe_slice sl_list (pe_dget hu (pv 5) (pv 6) (fun _ _ => rfl)) po_none (po_some (pv 8))) (pe_slice sl_list (pe_dget hu (pv 5) (pv 6) (fun _ _ => rfl)) (po_some (pe_op op_add (pv 8) pe_int)) po_none)) rfl)
  (pss_one (ps_set (i := 4) sc_law.nd rfl (by first | exact Or.inl rfl | exact Or.inr rfl) pe_int)))))))
  (pss_cons (ps_if (pt_cmpR op_ne (pe_ix ix_tup (pv 10) pe_int (fun _ _ => rfl)) pe_str (nomark _))
  (pss_one (ps_ret pe_bl))
  pss_nil)
  (pss_cons (ps_set (i := 11) sc_law.nd rfl (by first | exact Or.inl rfl | exact Or.inr rfl) (pe_ix ix_tup (pv 10) pe_int (fun _ _ => rfl)))
  (pss_cons (ps_dput hu (pv 5) (pv 6) (pe_op op_cat (pe_dget hu (pv 5) (pv 6) (fun _ _ => rfl)) (pe_lst (pa_cons (pv 12) pa_nil))) rfl)
  (pss_one (ps_set (i := 4) sc_law.nd rfl (by first | exact Or.inl rfl | exact Or.inr rfl) (pe_op op_add (pv 4) pe_int)))))))
  (pss_one (ps_if (pt_not (pt_val (pe_has G_tells (hr.mono (by omega)) (pa_cons (pv 11) (pa_cons (pv 2) (pa_cons (pv 5) pa_nil))))))
  (pss_one (ps_ret pe_bl))
  pss_nil)))))))
  (pss_one (ps_ret pe_bl))))))))))))))), ?_⟩
    refine ⟨_, rfl, a, ns0, rfl, hS, fun b c H1 k1 hb hc BG1 => ?_⟩
    refine ⟨_, rfl, b, c, rfl, BG1, fun t xs tbs H2 BG2 k2 ht et it g => ?_⟩
    obtain ⟨tb, tc⟩ := BG1.new ht
    have el : xs.length = tbs.length := by rw [it.len, List.length_map]
    have g1 := g.2.2.1
    have g5 := g.2.2.2
    refine ⟨_, rfl, fun s sx hs hsx hne => ?_⟩
    refine shape_mk hs hsx hne (Dt.lst (S := fun _ => True) (n := 2) (q := true) (.inl et) ⟨by omega, trivial⟩ (it.imp fun _ _ => trivial)) (shp_list g) fun H3 k3 SA => ?_
    have BG3 := BG2.keep0 k3
    have et3 := k3.at_ _ _ et (fun z => nomatch z)
    have it3 := ImAll.kp k3 it
    refine ⟨_, rfl, b, c, 7, rfl, BG3, by decide, by decide, fun r H4 r0 r1 BG4 k4 => ⟨_, _, rfl, rfl, ?_⟩⟩
    obtain ⟨r', rfl⟩ := Int.eq_ofNat_of_zero_le r0
    have et4 := k4.at_ _ _ et3 (by simpa using tb)
    have it4 := ImAll.kp k4 it3
    have SA4 := SA.bag BG3 k4
    refine ⟨_, rfl, _, rfl, _, rfl, b, c, t, xs, tbs, 297 + r', rfl, BG4, et4, tb, it4, g, by omega, fun d R H5 BG5 k5 hd DA gr tot => ?_⟩
    have S5 : Sit CS b t s d xs tbs R H5 := ⟨k5.at_ _ _ et4 (by simpa using tb), ImAll.kp k5 it4, SA4.bag BG4 k5, DA⟩
    refine ⟨_, rfl, _, rfl, _, rfl, _, _, rfl, .inl ⟨_, SqL.of S5.et, rfl⟩, b, c, _, rfl, BG5, by omega, by omega, fun rn H6 rn0 rn1 BG6 k6 => ?_⟩
    have S6 := S5.bag tb BG5 k6
    obtain ⟨i, rfl⟩ := Int.eq_ofNat_of_zero_le rn0
    obtain ⟨u, hu1⟩ : ∃ u, xs[i]? = some u := ⟨_, List.getElem?_eq_getElem (by omega)⟩
    obtain ⟨a', f', tt, rfl, htt, e1, e2⟩ := tab_at S6.it (Kp.refl _) hu1
    refine ⟨t, xs, (i : Int), _, rfl, rfl, SqL.of S6.et, atI_nat hu1, ?_⟩
    refine ⟨a', _, rfl, SqT.of e1, rfl, _, _, rfl, _, _, rfl, rfl, ?_⟩
    have gt := g.1 tt (List.mem_of_getElem? htt)
    have nl : tt.1.length ≤ 1000000 := Nat.le_trans gt.1.2.1 (by decide)
    -- a wrong row now and then
    refine ⟨fun σ H' => (∃ o8 o9, σ = [some (.ref a), some (.ref b), some (.ref t), some (.ref s), some (.int ((297 + r' : Nat) : Int)), some (.ref d), some (.str tt.1), some (.ref f'), o8, o9, none, none, none, none, none]) ∧ Bag H' b c ∧ Kp [b] H6 H', ?_, ?_⟩
    · refine ⟨_, rfl, b, c, 3, rfl, BG6, by decide, by decide, fun r3 H7 r30 r31 B7 k7 => ⟨rfl, _, rfl, ?_⟩⟩
      refine ite2 (fun _ => ?_) (fun _ => iteF ⟨⟨_, _, rfl⟩, B7, k7⟩)
      have S7 := S6.bag tb BG6 k7
      obtain ⟨kvs, ka, kxs, rr, hd7, KL, hv, hr1, kab, hka, ika, lk⟩ := S7.rows g htt
      have tg := total_ge hr1
      refine ⟨_, rfl, _, rfl, d, .ref ka, rfl, .inl ⟨kvs, .inr tt.1, .inl hd7, rfl, hv.symm⟩, _, _, rfl, .inl ⟨_, SqL.of hka, rfl⟩, _, _, rfl, rfl, _, rfl, ?_⟩
      refine ite2 (fun hpos => ?_) (fun _ => ⟨⟨_, _, rfl⟩, B7, k7⟩)
      have hpos := of_decide_eq_true hpos
      refine ⟨_, rfl, _, rfl, _, rfl, d, .ref ka, rfl, .inl ⟨kvs, .inr tt.1, .inl hd7, rfl, hv.symm⟩, _, _, rfl, .inl ⟨_, SqL.of hka, rfl⟩, b, c, _, rfl, B7, by omega, by omega, fun ra H8 ra0 ra1 B8 k8 => ?_⟩
      obtain ⟨j, rfl⟩ := Int.eq_ofNat_of_zero_le ra0
      have db := S7.DA.1
      have hd8 := k8.at_ _ _ hd7 (by simpa using db)
      have hka8 := k8.at_ _ _ hka (by simpa using kab)
      have ika8 := ImAll.kp k8 ika
      have KL8 := KL.bag k8
      have S8 := S7.bag tb B7 k8
      refine ⟨_, rfl, d, kvs, rfl, .inl hd8, fun W hW => ?_⟩
      have m0 := Kp.new (ms := []) (o := .dK kvs) hW
      have hf8 := (k7.trans k8).tp _ _ e2
      -- rows[:at] + [(1, .., 1)] + rows[at + 1:]
      refine ⟨_, rfl, _, rfl, d, .ref ka, rfl, .inl ⟨kvs, .inr tt.1, .inl (m0.at_ _ _ hd8 (fun z => nomatch z)), rfl, hv.symm⟩, _, rfl, _, rfl, ka, kxs, rfl, SqL.of (m0.at_ _ _ hka8 (fun z => nomatch z)), fun l1 hl1 => ?_⟩
      have m1 := m0.snoc (o := .lst (cutV kxs none (some (j : Int)))) hl1
      have h1 : upd (upd H8 W (.dK kvs)) l1 (.lst (cutV kxs none (some (j : Int)))) l1 = some (.lst (cutV kxs none (some (j : Int)))) := upd_same
      have W1 := (Kp.new (ms := []) (o := .lst (cutV kxs none (some (j : Int)))) hl1).at_ _ _ (upd_same (H := H8) (a := W) (o := .dK kvs)) (fun z => nomatch z)
      generalize upd (upd H8 W (.dK kvs)) l1 (.lst (cutV kxs none (some (j : Int)))) = G1 at m1 h1 W1 ⊢
      refine ⟨by show 1 ≤ sizeLine; decide, fun q1 hq1 => ?_⟩
      have n1 := Kp.new (ms := []) (o := .tup [.int 1]) hq1
      have hq1' : upd G1 q1 (.tup [.int 1]) q1 = some (.tup [.int 1]) := upd_same
      generalize upd G1 q1 (.tup [.int 1]) = G2 at n1 hq1' ⊢
      have m2 := m1.trans n1
      refine ⟨_, rfl, _, _, rfl, .inr ⟨_, SqT.of (m2.tp _ _ hf8), rfl⟩, _, _, rfl, rfl, ?_⟩
      rw [List.length_map]
      have g4 := gt.2.2.2
      refine ⟨q1, _, _, rfl, rfl, SqT.of hq1', by simp, by omega, by omega, by simp, fun q2 hq2 => ?_⟩
      rw [rep_one, show ((tt.2.length : Int) + 1).toNat = tt.2.length + 1 by omega]
      have n2 := Kp.new (ms := []) (o := .tup ((List.replicate (tt.2.length + 1) (1 : Int)).map V.int)) hq2
      have hq2' : upd G2 q2 (.tup ((List.replicate (tt.2.length + 1) (1 : Int)).map V.int)) q2 = some (.tup ((List.replicate (tt.2.length + 1) (1 : Int)).map V.int)) := upd_same
      generalize upd G2 q2 (.tup ((List.replicate (tt.2.length + 1) (1 : Int)).map V.int)) = G3 at n2 hq2' ⊢
      refine ⟨by show 1 ≤ sizeLine; decide, fun l2 hl2 => ?_⟩
      have n3 := Kp.new (ms := []) (o := .lst [.ref q2]) hl2
      have hl2' : upd G3 l2 (.lst [.ref q2]) l2 = some (.lst [.ref q2]) := upd_same
      generalize upd G3 l2 (.lst [.ref q2]) = G4 at n3 hl2' ⊢
      have n14 := (n1.trans n2).trans n3
      have c1 := cutV_length kxs none (some (j : Int))
      have c2 := cutV_length kxs (some ((j : Int) + 1)) none
      refine ⟨l1, l2, _, _, rfl, rfl, n14.at_ _ _ h1 (fun z => nomatch z), hl2', by show _ + 1 ≤ 16777216; omega, fun l3 hl3 => ?_⟩
      have n4 := Kp.new (ms := []) (o := .lst (cutV kxs none (some (j : Int)) ++ [.ref q2])) hl3
      have hl3' : upd G4 l3 (.lst (cutV kxs none (some (j : Int)) ++ [.ref q2])) l3 = some (.lst (cutV kxs none (some (j : Int)) ++ [.ref q2])) := upd_same
      generalize upd G4 l3 (.lst (cutV kxs none (some (j : Int)) ++ [.ref q2])) = G5 at n4 hl3' ⊢
      have m5 := m1.trans (n14.trans n4)
      refine ⟨_, rfl, _, rfl, d, .ref ka, rfl, .inl ⟨kvs, .inr tt.1, .inl (m5.at_ _ _ hd8 (fun z => nomatch z)), rfl, hv.symm⟩, _, rfl, _, _, rfl, rfl, _, rfl, ka, kxs, rfl, SqL.of (m5.at_ _ _ hka8 (fun z => nomatch z)), fun l4 hl4 => ?_⟩
      have n5 := Kp.new (ms := []) (o := .lst (cutV kxs (some ((j : Int) + 1)) none)) hl4
      have hl4' : upd G5 l4 (.lst (cutV kxs (some ((j : Int) + 1)) none)) l4 = some (.lst (cutV kxs (some ((j : Int) + 1)) none)) := upd_same
      generalize upd G5 l4 (.lst (cutV kxs (some ((j : Int) + 1)) none)) = G6 at n5 hl4' ⊢
      refine ⟨l3, l4, _, _, rfl, rfl, n5.at_ _ _ hl3' (fun z => nomatch z), hl4', by rw [List.length_append]; show _ + 1 + _ ≤ 16777216; omega, fun l5 hl5 => ?_⟩
      have n6 := Kp.new (ms := []) (o := .lst (cutV kxs none (some (j : Int)) ++ [.ref q2] ++ cutV kxs (some ((j : Int) + 1)) none)) hl5
      have hl5' : upd G6 l5 (.lst (cutV kxs none (some (j : Int)) ++ [.ref q2] ++ cutV kxs (some ((j : Int) + 1)) none)) l5 = some (.lst (cutV kxs none (some (j : Int)) ++ [.ref q2] ++ cutV kxs (some ((j : Int) + 1)) none)) := upd_same
      generalize upd G6 l5 (.lst (cutV kxs none (some (j : Int)) ++ [.ref q2] ++ cutV kxs (some ((j : Int) + 1)) none)) = G7 at n6 hl5' ⊢
      have n56 := n5.trans n6
      have m7 := m5.trans n56
      have W7 := ((n14.trans n4).trans n56).at_ _ _ W1 (fun z => nomatch z)
      have lkv : kvs.length ≤ 5 := by rw [KL.g.len]; exact g5
      refine ⟨_, rfl, _, rfl, W, _, rfl, .inl ⟨kvs, .inr tt.1, W7, rfl, by show _ < 16777216; omega, rfl⟩, ?_⟩
      have hWd : H8 W = none := hW
      have kW : Kp [W] G7 (upd G7 W (.dK (putK kvs (.inr tt.1) (.ref l5)))) := Kp.set W7 (fun _ z => by cases z) (by simp)
      have k89 : Kp [] H8 (upd G7 W (.dK (putK kvs (.inr tt.1) (.ref l5)))) := m7.late hWd
      have l5W : l5 ≠ W := fun z => by rw [z, W7] at hl5'; cases hl5'
      have h59 := kW.at_ _ _ hl5' (by simpa using l5W)
      have q29 := kW.tp _ _ (((n3.trans n4).trans n56).tp _ _ hq2')
      have W9 : upd G7 W (.dK (putK kvs (.inr tt.1) (.ref l5))) W = some (.dK (putK kvs (.inr tt.1) (.ref l5))) := upd_same
      generalize upd G7 W (.dK (putK kvs (.inr tt.1) (.ref l5))) = H9 at kW k89 h59 q29 W9 ⊢
      have S9 := S8.kp k89
      have KL9 := KL8.bag (k89.zero (ms := [b]))
      have c1e : cutV kxs none (some (j : Int)) = kxs.take j := cut_take (by omega)
      have c2e : cutV kxs (some ((j : Int) + 1)) none = kxs.drop (j + 1) := cutN_drop (i := j + 1) (by omega)
      rw [c1e, c2e] at h59
      have iy : ImAll H9 1 (kxs.take j ++ [V.ref q2] ++ kxs.drop (j + 1)) ((rr.take j ++ [List.replicate (tt.2.length + 1) (1 : Int)] ++ rr.drop (j + 1)).map dRow) := by
        rw [List.map_append, List.map_append, List.map_take, List.map_drop]
        have i9 := ImAll.kp k89 ika8
        exact ((i9.take j).append (.cons (.tup q29 ⟨by rw [List.length_map, List.length_replicate]; omega, ⟨_, q29⟩⟩ (dtAll_ints _)) .nil)).append (i9.dropd (j + 1))
      have BR := bad_row KL9 g gr htt hr1 (j := j) (by omega) h59 iy (by rw [List.length_replicate]; omega) (by omega)
      have hm : (Sum.inr tt.1 : Key) ∈ kvs.map (·.1) := by rw [KL.g.keys]; exact List.mem_map.mpr ⟨tt, List.mem_of_getElem? htt, rfl⟩
      have keysW : (putK kvs (.inr tt.1) (.ref l5)).map (·.1) = kvs.map (·.1) := putK_keys hm
      have lW : (putK kvs (.inr tt.1) (.ref l5)).length ≤ 5 := by
        have := congrArg List.length keysW
        rw [List.length_map, List.length_map] at this
        omega
      have strW : ∀ kv ∈ putK kvs (.inr tt.1) (.ref l5), ∃ z, kv.1 = .inr z := fun kv hkv => by
        have h1 : kv.1 ∈ (putK kvs (.inr tt.1) (.ref l5)).map (·.1) := List.mem_map.mpr ⟨kv, hkv, rfl⟩
        rw [keysW, KL.g.keys] at h1
        obtain ⟨u, hu, e⟩ := List.mem_map.mp h1
        exact ⟨u.1, e.symm⟩
      have B9 := B8.keep0 k89
      refine ⟨_, rfl, _, rfl, s, W, tbs, rfl, S9.SA, g, .inr ⟨_, _, _, W9, by omega, strW, BR, fun q u H10 k10 hq hu10 => ?_⟩⟩
      refine ⟨_, rfl, _, rfl, by show 2 ≤ sizeLine; decide, fun q3 hq3 => ⟨by show 2 ≤ sizeLine; decide, fun q4 hq4 => ?_⟩⟩
      have n7 := (Kp.new (ms := []) (o := .tup [.str tt.1, .int (j : Int)]) hq3).snoc (o := .tup [.str "rows", .ref q3]) hq4
      have q3' := (Kp.new (ms := []) (o := .tup [.str "rows", .ref q3]) hq4).tp _ _ (upd_same (H := H10) (a := q3) (o := .tup [.str tt.1, .int (j : Int)]))
      refine ⟨_, _, .ref q, .ref q4, _, rfl, ((tag_dt (n7.tp _ _ hq) (by decide +kernel) (two_dt (n7.tp _ _ hu10) (.str _ nl))).mono (by decide)), ((tag_dt upd_same (by decide +kernel) (two_dt q3' (.str _ nl))).mono (by decide)).weak, fun H11 k11 => ⟨_, rfl, iteF ?_⟩⟩
      -- a key that is no table
      have k911 : Kp [] H9 H11 := (k10.trans n7).trans k11
      have W11 := k911.at_ _ _ W9 (fun z => nomatch z)
      refine ⟨by show 0 ≤ sizeLine; decide, fun z0 hz0 => ?_⟩
      have n8 := Kp.new (ms := []) (o := .lst []) hz0
      have W12 := n8.at_ _ _ W11 (fun z => nomatch z)
      refine ⟨_, rfl, W, _, rfl, .inl ⟨putK kvs (.inr tt.1) (.ref l5), .inr "zzzzzzzzz", W12, rfl, by show _ < 16777216; omega, rfl⟩, ?_⟩
      have kz : Kp [W] _ (upd (upd H11 z0 (.lst [])) W (.dK (putK (putK kvs (.inr tt.1) (.ref l5)) (.inr "zzzzzzzzz") (.ref z0)))) := Kp.set W12 (fun _ z => by cases z) (by simp)
      have k813 : Kp [] H8 (upd (upd H11 z0 (.lst [])) W (.dK (putK (putK kvs (.inr tt.1) (.ref l5)) (.inr "zzzzzzzzz") (.ref z0)))) := ((k89.trans k911).trans n8).late hWd
      have nkz : valV (putK kvs (.inr tt.1) (.ref l5)) (.inr "zzzzzzzzz") = none := valV_out (by
        rw [keysW, KL.g.keys]
        intro hmz
        obtain ⟨u, hu, e⟩ := List.mem_map.mp hmz
        exact no_zz g u hu (Sum.inr.inj e).symm)
      rw [putK_new _ nkz] at kz k813 ⊢
      have W13 : upd (upd H11 z0 (.lst [])) W (.dK (putK kvs (.inr tt.1) (.ref l5) ++ [(.inr "zzzzzzzzz", .ref z0)])) W = some (.dK (putK kvs (.inr tt.1) (.ref l5) ++ [(.inr "zzzzzzzzz", .ref z0)])) := upd_same
      generalize upd (upd H11 z0 (.lst [])) W (.dK (putK kvs (.inr tt.1) (.ref l5) ++ [(.inr "zzzzzzzzz", .ref z0)])) = H13 at kz k813 W13 ⊢
      have S13 := S8.kp k813
      have BRz : BadRw H13 (putK kvs (.inr tt.1) (.ref l5) ++ [(.inr "zzzzzzzzz", .ref z0)]) tbs .non (-1) := .inl ⟨⟨(.inr "zzzzzzzzz", .ref z0), by simp, fun t ht e => no_zz g t ht (Sum.inr.inj e)⟩, rfl, rfl⟩
      refine ⟨_, rfl, _, rfl, s, W, tbs, rfl, S13.SA, g, .inr ⟨_, _, _, W13, by rw [List.length_append]; simp only [List.length_cons, List.length_nil]; omega, fun kv hkv => ?_, BRz, fun q' u' H14 k14 hq' hu14 => ?_⟩⟩
      · rcases List.mem_append.mp hkv with h | h
        · exact strW kv h
        · exact ⟨_, by rw [List.mem_singleton.mp h]⟩
      refine ⟨_, rfl, by show 2 ≤ sizeLine; decide, fun q5 hq5 => ⟨by show 2 ≤ sizeLine; decide, fun q6 hq6 => ?_⟩⟩
      have n9 := (Kp.new (ms := []) (o := .tup [.non, .int (-1)]) hq5).snoc (o := .tup [.str "rows", .ref q5]) hq6
      have q5' := (Kp.new (ms := []) (o := .tup [.str "rows", .ref q5]) hq6).tp _ _ (upd_same (H := H14) (a := q5) (o := .tup [.non, .int (-1)]))
      refine ⟨_, _, .ref q', .ref q6, _, rfl, ((tag_dt (n9.tp _ _ hq') (by decide +kernel) (two_dt (n9.tp _ _ hu14) .non)).mono (by decide)), ((tag_dt upd_same (by decide +kernel) (two_dt q5' .non)).mono (by decide)).weak, fun H15 k15 => ⟨_, rfl, iteF ?_⟩⟩
      have kend : Kp [] H8 H15 := ((k813.trans k14).trans n9).trans k15
      exact ⟨⟨_, _, rfl⟩, B8.keep0 kend, (k7.trans k8).trans kend.zero⟩
    rintro σ Ha ⟨⟨o8, o9, rfl⟩, Ba, ka⟩
    have Sa := S6.bag tb BG6 ka
    have e2a := ka.tp _ _ e2
    clear S5 S6 et3 et4 it3 it4 SA4 SA
    have cm : PyData.canLay0 (.tuple [.str "many"]) = true := by decide +kernel
    have sm : SeqAt.shaped (.tuple [.str "many"]) = true := by decide +kernel
    have em : PyData.eqv (.tuple [.str "many"]) (.tuple [.str "many"]) = true := SeqAt.eqv_refl _ cm
    have dtm : ∀ (H : Hp) (q : Addr), H q = some (.tup [.str "many"]) → Dp K H (.ref q) (.tuple [.str "many"]) := fun H q hq => Dt.dp (S := fun _ => True) (q := true) (n := 1) (.tup hq ⟨by simp, trivial⟩ (.cons (.str _ (by decide +kernel)) .nil)) cm
    have dtns : ∀ (H : Hp) (q : Addr) (us : List Int), us.length ≤ 10 → H q = some (.tup (us.map V.int)) → Dt (fun _ => True) true H 1 (.ref q) (.tuple (us.map .int)) := fun H q us hl hq => .tup hq ⟨by rw [List.length_map]; omega, trivial⟩ (dtAll_ints us)
    have same : ∀ {i2 : Nat} {t2 : Str × List Str}, tbs[i2]? = some t2 → PyData.str tt.1 = .str t2.1 → i2 = i ∧ t2 = tt := fun {i2 t2} h1 h2 => by
      have := nd_ne g.2.1 h1 htt (by injection h2 with h2; exact h2.symm)
      subst this
      rw [h1] at htt
      exact ⟨rfl, Option.some.inj htt⟩
    -- the store is made, or there are too many rows
    refine ⟨_, rfl, _, rfl, s, d, tbs, rfl, Sa.SA, g, .inl ⟨R, Sa.DA.din g gr, by omega, fun q p Hb t3 kb hq st => ?_, fun q Hb t3 kb hq => ?_⟩⟩
    rotate_left
    · refine ⟨_, rfl, _, _, rfl, rfl, _, rfl, ?_⟩
      rw [decide_eq_true (show ((300 : Int) < ((297 + r' : Nat) : Int)) by omega)]
      refine iteT ⟨_, rfl, by show 1 ≤ sizeLine; decide, fun q2 hq2 => ?_⟩
      have n1 := Kp.new (ms := []) (o := .tup [.str "many"]) hq2
      refine ⟨_, _, dtm _ q (n1.tp _ _ hq), dtm _ q2 upd_same, sm, sm, ?_⟩
      rw [em]
      exact k _
    have Sb := Sa.kp kb
    have Bb := Ba.keep0 kb
    refine ⟨_, rfl, _, _, rfl, rfl, _, rfl, ?_⟩
    rw [decide_eq_false (show ¬ ((300 : Int) < ((297 + r' : Nat) : Int)) by omega)]
    refine iteF ?_
    refine ⟨_, rfl, q, _, _, .str "made", rfl, rfl, SqT.of hq, atI_nat (k := 0) rfl, rfl, _, rfl, ?_⟩
    refine iteB (c := false) (by simp) (iteF ?_)
    refine ⟨_, rfl, q, _, _, .ref p, rfl, rfl, SqT.of hq, atI_nat (k := 1) rfl, _, rfl, _, rfl, b, p, s, t, d, xs, tbs, R, rfl, st, g, Sb.et, Sb.it, Sb.DA, fun Hc kc => ⟨_, rfl, iteF ?_⟩⟩
    have Sc := Sb.kp kc
    have Bc := Bb.keep0 kc
    have stc := st.kp kc
    have e2c := (kb.trans kc).tp _ _ e2a
    refine ⟨_, rfl, q, _, _, .ref p, rfl, rfl, SqT.of (kc.tp _ _ hq), atI_nat (k := 1) rfl, ?_⟩
    -- the row
    refine ⟨_, rfl, f', rfl, ⟨_, .inl (.inl e2c)⟩, fun D hD => ?_⟩
    obtain ⟨Db, Dc⟩ := Bc.new hD
    refine lc_it (walk_tup (xs := tt.2.map V.str)) (fun q H' => ∃ us : List Int, H' D = some (.lst (us.map V.int)) ∧ us.length = q ∧ (∀ n ∈ us, InV n) ∧ Bag H' b c ∧ Kp [b] Hc H') ⟨[], upd_same, rfl, (fun n h => nomatch h), Bc.keep0 (Kp.new hD), Kp.new hD⟩ (fun q H' _ ⟨_, _, _, _, _, k7⟩ => .inl (.inl (k7.tp _ _ e2c))) (fun q u H7 H8 hq h7 hy => ?_) (fun H9 h7 => ?_)
    · obtain ⟨us, h7, l7, g7, B7, k7⟩ := h7
      obtain ⟨rfl, _⟩ := hy
      refine ⟨rfl, _, rfl, b, c, rfl, B7, fun v' H9 hv' B9 k9 => ?_⟩
      have h9 := k9.at_ _ _ h7 (by simpa using Db)
      rw [List.length_map] at hq
      have := gt.2.2.2.2
      refine ⟨_, h9, by rw [List.length_map, l7]; show _ < 16777216; omega, us ++ [v'], by rw [List.map_append]; exact upd_same, by simp [l7], fun n hn => ?_, B9.keep (ms := [D]) (Kp.updL h9 (by simp)) (by simpa using Ne.symm Db) (by simpa using Ne.symm Dc), (k7.trans k9).late hD⟩
      rcases List.mem_append.mp hn with h | h
      · exact g7 n h
      · rw [List.mem_singleton.mp h]; exact hv'
    obtain ⟨ns, h9, l9, g9, B9, k9⟩ := h7
    rw [List.length_map] at l9
    have g4 := gt.2.2.2
    have nne : ns ≠ [] := fun z => by rw [z] at l9; simp at l9; omega
    refine ⟨D, _, rfl, .inl ⟨SqL.of h9, fun rw' hrw => ?_⟩⟩
    have m1 := Kp.new (ms := []) (o := .tup (ns.map V.int)) hrw
    have kd : Kp [b] Hc (upd H9 rw' (.tup (ns.map V.int))) := k9.trans m1.zero
    have Sd := Sc.bag tb Bc kd
    have Bd := B9.keep0 m1
    have std := stc.bag Bc kd
    have hvns : ValsD tt.2.length (.tuple (ns.map .int)) ns := ⟨.inr rfl, l9, g9⟩
    refine ⟨5, rfl, by decide, by decide, ?_⟩
    refine for_range (lo := 0) (n := (5 : Int).toNat) (fun j σ H' => ∃ (p : Addr) (R : List (List (List Int))) (m : Nat) (o8 o9 o10 o13 : Option V), σ = [some (.ref a), some (.ref b), some (.ref t), some (.ref s), some (.int m), some (.ref d), some (.str tt.1), some (.ref f'), o8, o9, o10, some (.ref p), some (.ref rw'), o13, none] ∧ Bag H' b c ∧ Sit CS b t s d xs tbs R H' ∧ StAt C CS H' p s tbs R ∧ GoodR tbs R ∧ total R = m ∧ m ≤ 300 ∧ H' rw' = some (.tup (ns.map V.int)))
      ⟨p, R, 297 + r', _, _, _, _, rfl, Bd, Sd, std, gr, tot, by omega, upd_same⟩ ?_ (fun σ H' h => by
        obtain ⟨p, R, m, o8, o9, o10, o13, rfl, _⟩ := h
        exact k _)
    clear Sa Sb Sc Sd st stc std gr tot t3 kb hq e1
    rintro j σ H1 hj ⟨p, R, m, o8, o9, o10, o13, rfl, B1, S1, st, gr, tot, m300, hrow⟩
    obtain ⟨kvs, ka, kxs, rr, hd1, KL, hv, hr1, kab, hka, ika, lk⟩ := S1.rows g htt
    have tg := total_ge hr1
    have lkv : kvs.length ≤ 5 := by rw [KL.g.len]; exact g5
    have mtt := List.mem_of_getElem? htt
    -- a wrong row is put
    refine ⟨_, rfl, _, rfl, _, rfl, by show 1 ≤ sizeLine; decide, fun q1 hq1 => ?_⟩
    have n1 := Kp.new (ms := []) (o := .tup [.int 1]) hq1
    refine ⟨rw', q1, _, _, rfl, rfl, SqT.of (n1.tp _ _ hrow), SqT.of upd_same, by simpa using nne, by rw [List.length_map]; show _ + 1 ≤ 16777216; omega, (fun h => by cases h), fun _ pr hpr => ?_⟩
    have n2 := n1.snoc (o := .tup (ns.map V.int ++ [.int 1])) hpr
    have hpr' : upd (upd H1 q1 (.tup [.int 1])) pr (.tup (ns.map V.int ++ [.int 1])) pr = some (.tup ((ns ++ [1]).map V.int)) := by rw [upd_same, List.map_append]; rfl
    generalize upd (upd H1 q1 (.tup [.int 1])) pr (.tup (ns.map V.int ++ [.int 1])) = H2 at n2 hpr' ⊢
    have S2 := S1.kp n2
    have noV : ∀ us, ¬ ValsD tt.2.length (.tuple ((ns ++ [1]).map .int)) us := fun us h => no_vals h (by rw [List.length_append]; simp only [List.length_cons, List.length_nil]; omega)
    refine ⟨p, s, tbs, R, _, _, true, true, 1, 0, .ref pr, .str tt.1, _, .str tt.1, rfl, st.kp n2, g, gr, by omega, dtns _ pr (ns ++ [1]) (by rw [List.length_append]; simp only [List.length_cons, List.length_nil]; omega) hpr', Dt.str (S := fun _ => True) _ nl, fun i2 t2 r2 ht2 hr2 ee => ?_, fun hno => (hno tt mtt rfl).elim⟩
    obtain ⟨rfl, rfl⟩ := same ht2 ee
    refine ⟨fun us _ _ _ h => (noV us h).elim, fun us _ _ h => (noV us h).elim, fun _ u a3 H3 k3 ha3 hu3 => ?_⟩
    rw [hr1] at hr2
    cases hr2
    have k13 := n2.trans k3
    have hd3 := k13.at_ _ _ hd1 (fun z => nomatch z)
    refine ⟨_, rfl, _, rfl, _, rfl, d, .ref ka, rfl, .inl ⟨kvs, .inr t2.1, .inl hd3, rfl, hv.symm⟩, _, _, rfl, .inl ⟨_, SqL.of (k13.at_ _ _ hka (fun z => nomatch z)), rfl⟩, by show 2 ≤ sizeLine; decide, fun q3 hq3 => ⟨by show 2 ≤ sizeLine; decide, fun q4 hq4 => ?_⟩⟩
    have n3 := (Kp.new (ms := []) (o := .tup [.str t2.1, .int (kxs.length : Nat)]) hq3).snoc (o := .tup [.str "rows", .ref q3]) hq4
    have q3' := (Kp.new (ms := []) (o := .tup [.str "rows", .ref q3]) hq4).tp _ _ (upd_same (H := H3) (a := q3) (o := .tup [.str t2.1, .int (kxs.length : Nat)]))
    rw [lk] at n3 q3' ⊢
    refine ⟨_, _, .ref a3, .ref q4, _, rfl, ((tag_dt (n3.tp _ _ ha3) (by decide +kernel) (two_dt (n3.tp _ _ hu3) (.str _ nl))).mono (by decide)), ((tag_dt upd_same (by decide +kernel) (two_dt q3' (.str _ nl))).mono (by decide)).weak, fun H4 k4 => ⟨_, rfl, iteF ?_⟩⟩
    have k14 := (k13.trans n3).trans k4
    have S4 := S1.kp k14
    have row4 := k14.tp _ _ hrow
    -- a name that is none
    refine ⟨_, rfl, _, rfl, p, s, tbs, R, _, _, true, true, 1, 0, .ref rw', .str "Z", _, .str "Z", rfl, st.kp k14, g, gr, by omega, dtns _ rw' ns (by omega) row4, Dt.str (S := fun _ => True) _ (by decide +kernel), fun i2 t3 r2 ht3 hr2 ee => (no_Z g t3 (List.mem_of_getElem? ht3) ee).elim, fun hno a5 H5 k5 ha5 => ?_⟩
    refine ⟨by show 2 ≤ sizeLine; decide, fun q5 hq5 => ?_⟩
    have n5 := Kp.new (ms := []) (o := .tup [.str "name", .str "Z"]) hq5
    refine ⟨_, _, .ref a5, .ref q5, _, rfl, ((tag_dt (n5.tp _ _ ha5) (by decide +kernel) (Dt.str (S := fun _ => True) (q := true) (n := 0) _ (by decide +kernel))).mono (by decide)), ((tag_dt upd_same (by decide +kernel) (Dt.str (S := fun _ => True) (q := true) (n := 0) _ (by decide +kernel))).mono (by decide)).weak, fun H6 k6 => ⟨_, rfl, iteF ?_⟩⟩
    have k16 := k14.trans ((k5.trans n5).trans k6)
    have S6 := S1.kp k16
    have row6 := k16.tp _ _ hrow
    have B6 := B1.keep0 k16
    -- the row is put
    refine ⟨fun σ H' => ∃ a7, σ = [some (.ref a), some (.ref b), some (.ref t), some (.ref s), some (.int m), some (.ref d), some (.str t2.1), some (.ref f'), o8, o9, some (.ref a7), some (.ref p), some (.ref rw'), some (.int (0 + (j : Int))), none] ∧ Kp [] H6 H' ∧ ((m + 1 ≤ 300 ∧ ∃ p', H' a7 = some (.tup [.str "made", .ref p']) ∧ StAt C CS H' p' s tbs (R.set i2 (rr ++ [ns]))) ∨ (300 < m + 1 ∧ H' a7 = some (.tup [.str "many"]))), ?_, ?_⟩
    · refine ⟨_, rfl, _, rfl, _, rfl, p, s, tbs, R, _, _, true, true, 1, 0, .ref rw', .str t2.1, _, .str t2.1, rfl, st.kp k16, g, gr, by omega, dtns _ rw' ns (by omega) row6, Dt.str (S := fun _ => True) _ nl, fun i3 t3 r3 ht3 hr3 ee => ?_, fun hno => (hno t2 mtt rfl).elim⟩
      obtain ⟨rfl, rfl⟩ := same ht3 ee
      rw [hr1] at hr3
      cases hr3
      refine ⟨fun ns' a7 p' H7 hv7 t7 k7 ha7 st7 => ⟨a7, rfl, k7, .inl ⟨by omega, p', ha7, ?_⟩⟩, fun ns' a7 H7 hv7 t7 k7 ha7 => ⟨a7, rfl, k7, .inr ⟨by omega, ha7⟩⟩, fun hno => (hno ⟨ns, hvns⟩).elim⟩
      have : ns' = ns := by
        rcases hv7.1 with r | r
        · cases r
        · injection r with r; exact (ints_map_inj r).symm
      rw [← this]
      exact st7
    rintro σ H7 ⟨a7, rfl, k7, hcase⟩
    have k17 := k16.trans k7
    have S7 := S1.kp k17
    have B7 := B1.keep0 k17
    have row7 := k17.tp _ _ hrow
    have hd7 := k17.at_ _ _ hd1 (fun z => nomatch z)
    have hka7 := k17.at_ _ _ hka (fun z => nomatch z)
    have ika7 := ImAll.kp k17 ika
    have KL7 := KL.bag (k17.zero (ms := [b]))
    refine ⟨fun σ H' => ∃ (p : Addr) (R : List (List (List Int))) (m : Nat) (o8 o9 o10 : Option V), σ = [some (.ref a), some (.ref b), some (.ref t), some (.ref s), some (.int m), some (.ref d), some (.str t2.1), some (.ref f'), o8, o9, o10, some (.ref p), some (.ref rw'), some (.int (0 + (j : Int))), none] ∧ Bag H' b c ∧ Sit CS b t s d xs tbs R H' ∧ StAt C CS H' p s tbs R ∧ GoodR tbs R ∧ total R = m ∧ m ≤ 300 ∧ H' rw' = some (.tup (ns.map V.int)), ?_, ?_⟩
    · rcases hcase with ⟨m1', p', ha7, st7⟩ | ⟨m1', ha7⟩
      · -- a row more
        refine ⟨_, rfl, rfl, _, rfl, iteB (c := false) (decide_eq_false fun e => by injection e with e; omega) (iteF ?_)⟩
        refine ⟨_, rfl, a7, _, _, .str "made", rfl, rfl, SqT.of ha7, atI_nat (k := 0) rfl, rfl, _, rfl, ?_⟩
        refine iteB (c := false) (by simp) (iteF ?_)
        refine ⟨_, rfl, a7, _, _, .ref p', rfl, rfl, SqT.of ha7, atI_nat (k := 1) rfl, ?_⟩
        refine ⟨_, rfl, _, rfl, d, .ref ka, rfl, .inl ⟨kvs, .inr t2.1, .inl hd7, rfl, hv.symm⟩, _, rfl, by show 1 ≤ sizeLine; decide, fun l2 hl2 => ?_⟩
        have z1 := Kp.new (ms := []) (o := .lst [.ref rw']) hl2
        refine ⟨ka, l2, kxs, _, rfl, rfl, z1.at_ _ _ hka7 (fun z => nomatch z), upd_same, by show _ + 1 ≤ 16777216; omega, fun l3 hl3 => ?_⟩
        have z2 := z1.snoc (o := .lst (kxs ++ [.ref rw'])) hl3
        have hl3' : upd (upd H7 l2 (.lst [.ref rw'])) l3 (.lst (kxs ++ [.ref rw'])) l3 = some (.lst (kxs ++ [.ref rw'])) := upd_same
        have l3b : l3 ≠ b := ((B7.keep0 z1).new hl3).1
        generalize upd (upd H7 l2 (.lst [.ref rw'])) l3 (.lst (kxs ++ [.ref rw'])) = H8 at z2 hl3' ⊢
        have S8 := S7.kp z2
        have hd8 := z2.at_ _ _ hd7 (fun z => nomatch z)
        have KL8 := KL7.bag (z2.zero (ms := [b]))
        have row8 := z2.tp _ _ row7
        have LA : LsAt b H8 (.ref l3) (rr ++ [ns]) := ⟨l3, _, rfl, l3b, hl3', by rw [List.length_append]; simp only [List.length_cons, List.length_nil]; omega, by
          rw [List.map_append]
          exact (ImAll.kp z2 ika7).append (.cons (.tup row8 ⟨by rw [List.length_map]; omega, ⟨_, row8⟩⟩ (dtAll_ints ns)) .nil)⟩
        obtain ⟨S9, B9, kD⟩ := S8.put g htt hd8 KL8 LA (B7.keep0 z2)
        refine ⟨_, rfl, _, rfl, d, _, rfl, .inl ⟨kvs, .inr t2.1, hd8, rfl, by show _ < 16777216; omega, rfl⟩, _, rfl, _, _, rfl, rfl, ?_⟩
        have ts := total_set (r' := rr ++ [ns]) hr1
        rw [List.length_append, List.length_cons, List.length_nil] at ts
        refine ⟨p', R.set i2 (rr ++ [ns]), m + 1, _, _, _, rfl, B9, S9, (st7.kp z2).dict hd8 KL8 g1 kD, gr.set htt (fun x hx => ?_), by omega, by omega, kD.tp _ _ row8⟩
        rcases List.mem_append.mp hx with h | h
        · exact gr.2 i2 t2 rr htt hr1 x h
        · rw [List.mem_singleton.mp h]; exact hvns.2
      · -- too many
        have m3 : m = 300 := by omega
        refine ⟨_, rfl, rfl, _, rfl, iteB (c := true) (decide_eq_true (by rw [m3]; rfl)) (iteT ?_)⟩
        refine ⟨_, rfl, by show 1 ≤ sizeLine; decide, fun q8 hq8 => ?_⟩
        have z1 := Kp.new (ms := []) (o := .tup [.str "many"]) hq8
        refine ⟨_, _, dtm _ a7 (z1.tp _ _ ha7), dtm _ q8 upd_same, sm, sm, _, rfl, ?_⟩
        rw [em]
        refine iteF ?_
        have S8 := S7.kp z1
        have st8 := (st.kp k17).kp z1
        refine ⟨_, rfl, _, rfl, _, rfl, b, p, s, t, d, xs, tbs, R, rfl, st8, g, S8.et, S8.it, S8.DA, fun H9 k9 => ⟨_, rfl, iteF ?_⟩⟩
        have z2 := z1.trans k9
        have hd9 := z2.at_ _ _ hd7 (fun z => nomatch z)
        have hka9 := z2.at_ _ _ hka7 (fun z => nomatch z)
        refine ⟨_, rfl, _, rfl, d, .ref ka, rfl, .inl ⟨kvs, .inr t2.1, .inl hd9, rfl, hv.symm⟩, _, _, rfl, .inl ⟨_, SqL.of hka9, rfl⟩, rfl, _, rfl, ?_⟩
        by_cases h0 : kxs.length = 0
        · refine iteB (c := true) (decide_eq_true (by rw [h0]; rfl)) (iteT ?_)
          exact k _
        refine iteB (c := false) (decide_eq_false fun e => h0 (by injection e with e; omega)) (iteF ?_)
        refine ⟨_, rfl, _, rfl, _, rfl, d, .ref ka, rfl, .inl ⟨kvs, .inr t2.1, .inl hd9, rfl, hv.symm⟩, _, _, rfl, .inl ⟨_, SqL.of hka9, rfl⟩, b, c, _, rfl, B7.keep0 z2, by omega, by omega, fun ra HA ra0 ra1 BA kA => ?_⟩
        obtain ⟨jj, rfl⟩ := Int.eq_ofNat_of_zero_le ra0
        have db := S7.DA.1
        have B9' := B7.keep0 z2
        have SA' := (S7.kp z2).bag tb B9' kA
        have stA := (st8.kp k9).bag B9' kA
        have hdA := kA.at_ _ _ hd9 (by simpa using db)
        have hkaA := kA.at_ _ _ hka9 (by simpa using kab)
        have ikaA := ImAll.kp kA (ImAll.kp z2 ika7)
        have KLA := (KL7.bag (z2.zero (ms := [b]))).bag kA
        have rowA := kA.tp _ _ (z2.tp _ _ row7)
        obtain ⟨dxA, kdA, kvsA, hpA, _⟩ := id stA
        refine ⟨_, rfl, p, dxA, _, rfl, hpA, rfl, _, rfl, _, rfl, p, s, tbs, R, (fun _ => True), (fun _ => True), true, true, 0, 0, .int (jj : Int), .str t2.1, .int (jj : Int), .str t2.1, rfl, stA, g, gr, by omega, .int _, .str _ nl, fun i3 t3 r3 ht3 hr3 ee => ?_, fun hno => (hno t2 mtt rfl).elim⟩
        obtain ⟨rfl, rfl⟩ := same ht3 ee
        rw [hr1] at hr3
        cases hr3
        refine ⟨fun j' p' HB ej hj' kB hp' stB => ?_, fun hno => (hno ⟨jj, rfl, by omega⟩).elim⟩
        have ejj : jj = j' := by injection ej with ej; exact Int.ofNat.inj ej
        subst ejj
        have hdB := kB.at_ _ _ hdA (fun z => nomatch z)
        have hkaB := kB.at_ _ _ hkaA (fun z => nomatch z)
        refine ⟨_, rfl, _, rfl, d, .ref ka, rfl, .inl ⟨kvs, .inr t3.1, .inl hdB, rfl, hv.symm⟩, _, rfl, _, rfl, ka, kxs, rfl, SqL.of hkaB, fun l1 hl1 => ?_⟩
        have y1 := Kp.new (ms := []) (o := .lst (cutV kxs none (some (jj : Int)))) hl1
        refine ⟨_, rfl, _, rfl, d, .ref ka, rfl, .inl ⟨kvs, .inr t3.1, .inl (y1.at_ _ _ hdB (fun z => nomatch z)), rfl, hv.symm⟩, _, rfl, _, _, rfl, rfl, _, rfl, ka, kxs, rfl, SqL.of (y1.at_ _ _ hkaB (fun z => nomatch z)), fun l2 hl2 => ?_⟩
        have y2 := y1.snoc (o := .lst (cutV kxs (some ((jj : Int) + 1)) none)) hl2
        have l1' := (Kp.new (ms := []) (o := .lst (cutV kxs (some ((jj : Int) + 1)) none)) hl2).at_ _ _ (upd_same (a := l1)) (fun z => nomatch z)
        have c1 := cutV_length kxs none (some (jj : Int))
        have c2 := cutV_length kxs (some ((jj : Int) + 1)) none
        have B11 := (BA.keep0 kB).keep0 y2
        refine ⟨l1, l2, _, _, rfl, rfl, l1', upd_same, by show _ ≤ 16777216; omega, fun l3 hl3 => ?_⟩
        have y3 := y2.snoc (o := .lst (cutV kxs none (some (jj : Int)) ++ cutV kxs (some ((jj : Int) + 1)) none)) hl3
        have c1e : cutV kxs none (some (jj : Int)) = kxs.take jj := cut_take (by omega)
        have c2e : cutV kxs (some ((jj : Int) + 1)) none = kxs.drop (jj + 1) := cutN_drop (i := jj + 1) (by omega)
        have l3b : l3 ≠ b := (B11.new hl3).1
        rw [c1e, c2e] at y3 ⊢
        have hl3' : upd (upd (upd HB l1 (.lst (kxs.take jj))) l2 (.lst (kxs.drop (jj + 1)))) l3 (.lst (kxs.take jj ++ kxs.drop (jj + 1))) l3 = some (.lst (kxs.take jj ++ kxs.drop (jj + 1))) := upd_same
        generalize upd (upd (upd HB l1 (.lst (kxs.take jj))) l2 (.lst (kxs.drop (jj + 1)))) l3 (.lst (kxs.take jj ++ kxs.drop (jj + 1))) = HC at y3 hl3' ⊢
        have kAC := kB.trans y3
        have SC := SA'.kp kAC
        have hdC := kAC.at_ _ _ hdA (fun z => nomatch z)
        have KLC := KLA.bag (kAC.zero (ms := [b]))
        have rowC := kAC.tp _ _ rowA
        have LA : LsAt b HC (.ref l3) (rr.take jj ++ rr.drop (jj + 1)) := ⟨l3, _, rfl, l3b, hl3', by rw [List.length_append, List.length_take, List.length_drop]; omega, by
          rw [List.map_append, List.map_take, List.map_drop]
          have i9 := ImAll.kp kAC ikaA
          exact (i9.take jj).append (i9.dropd (jj + 1))⟩
        obtain ⟨SD, BD, kD⟩ := SC.put g htt hdC KLC LA (BA.keep0 kAC)
        refine ⟨_, rfl, _, rfl, d, _, rfl, .inl ⟨kvs, .inr t3.1, hdC, rfl, by show _ < 16777216; omega, rfl⟩, ?_⟩
        have ts := total_set (r' := rr.take jj ++ rr.drop (jj + 1)) hr1
        rw [List.length_append, List.length_take, List.length_drop] at ts
        refine ⟨p', R.set i3 (rr.take jj ++ rr.drop (jj + 1)), 299, _, _, _, rfl, BD, SD, (stB.kp y3).dict hdC KLC g1 kD, gr.set htt (fun x hx => ?_), by omega, by omega, kD.tp _ _ rowC⟩
        rcases List.mem_append.mp hx with h | h
        · exact gr.2 i3 t3 rr htt hr1 x (List.mem_of_mem_take h)
        · exact gr.2 i3 t3 rr htt hr1 x (List.mem_of_mem_drop h)
    rintro σ H8 ⟨p, R, m, o8, o9, o10, rfl, B8, S8, st8, gr8, tot8, m8, row8⟩
    refine ⟨_, rfl, _, rfl, _, rfl, b, p, s, t, d, xs, tbs, R, rfl, st8, g, S8.et, S8.it, S8.DA, fun H9 k9 => ⟨_, rfl, iteF ?_⟩⟩
    exact ⟨p, R, m, _, _, _, _, rfl, B8.keep0 k9, S8.kp k9, st8.kp k9, gr8, tot8, m8, k9.tp _ _ row8⟩
end
end Fm

namespace Fm
open PySem PySem.Spec PyProof.Rows L2
theorem ok_BadShape_init {P : Program} {w : World} {K : PySem.W.Frag} {mg : Str → Option Value} {base : Heap} {f C : Addr} {fd : FuncData} (F : Fun K "__init__" "BadShape.__init__" s_BadShape_init f fd) (ox : OexC K C) (no : PySem.W.findIn K (.ref C) "at" = some none) : FnOk P w K mg base CX0 1 f fd ["self", "at"] (spErr C "at") := by
  refine F.ok sc_BadShape_init (fun vs H Q E h => ?_) (fun cdv A outer s H vs Q E hr h => ⟨_, pss_one (ps_ost (pv 0) (pv 1)), ?_⟩)
  · obtain ⟨a, y, rfl, _⟩ := h; rfl
  · obtain ⟨a, y, rfl, ha, k⟩ := h
    exact ⟨_, rfl, _, rfl, a, C, rfl, ox, no, .inl ⟨ha, fun dx h1 h2 => k dx h1 h2⟩⟩
theorem ok_BadName_init {P : Program} {w : World} {K : PySem.W.Frag} {mg : Str → Option Value} {base : Heap} {f C : Addr} {fd : FuncData} (F : Fun K "__init__" "BadName.__init__" s_BadName_init f fd) (ox : OexC K C) (no : PySem.W.findIn K (.ref C) "value" = some none) : FnOk P w K mg base CX0 1 f fd ["self", "value"] (spErr C "value") := by
  refine F.ok sc_BadName_init (fun vs H Q E h => ?_) (fun cdv A outer s H vs Q E hr h => ⟨_, pss_one (ps_ost (pv 0) (pv 1)), ?_⟩)
  · obtain ⟨a, y, rfl, _⟩ := h; rfl
  · obtain ⟨a, y, rfl, ha, k⟩ := h
    exact ⟨_, rfl, _, rfl, a, C, rfl, ox, no, .inl ⟨ha, fun dx h1 h2 => k dx h1 h2⟩⟩
theorem ok_BadRows_init {P : Program} {w : World} {K : PySem.W.Frag} {mg : Str → Option Value} {base : Heap} {f C : Addr} {fd : FuncData} (F : Fun K "__init__" "BadRows.__init__" s_BadRows_init f fd) (ox : OexC K C) (no : PySem.W.findIn K (.ref C) "value" = some none) : FnOk P w K mg base CX0 1 f fd ["self", "value"] (spErr C "value") := by
  refine F.ok sc_BadRows_init (fun vs H Q E h => ?_) (fun cdv A outer s H vs Q E hr h => ⟨_, pss_one (ps_ost (pv 0) (pv 1)), ?_⟩)
  · obtain ⟨a, y, rfl, _⟩ := h; rfl
  · obtain ⟨a, y, rfl, ha, k⟩ := h
    exact ⟨_, rfl, _, rfl, a, C, rfl, ox, no, .inl ⟨ha, fun dx h1 h2 => k dx h1 h2⟩⟩
theorem ok_BadIndex_init {P : Program} {w : World} {K : PySem.W.Frag} {mg : Str → Option Value} {base : Heap} {f C : Addr} {fd : FuncData} (F : Fun K "__init__" "BadIndex.__init__" s_BadIndex_init f fd) (ox : OexC K C) (no : PySem.W.findIn K (.ref C) "value" = some none) : FnOk P w K mg base CX0 1 f fd ["self", "value"] (spErr C "value") := by
  refine F.ok sc_BadIndex_init (fun vs H Q E h => ?_) (fun cdv A outer s H vs Q E hr h => ⟨_, pss_one (ps_ost (pv 0) (pv 1)), ?_⟩)
  · obtain ⟨a, y, rfl, _⟩ := h; rfl
  · obtain ⟨a, y, rfl, ha, k⟩ := h
    exact ⟨_, rfl, _, rfl, a, C, rfl, ox, no, .inl ⟨ha, fun dx h1 h2 => k dx h1 h2⟩⟩
theorem all_mk {l : PySem.W.OpenLaw} {w : World} {K : PySem.W.Frag} {h : Heap} {mg : Str → Option Value} {fa : Addr} (X : K.In h) (G : h.Ns mainGlobals mg) (hfa : mg "law" = some (.ref fa))
    {tk_LETTERS : Tok}
    {tk_MOST_VALUE : Tok}
    {tk_MOST_ROWS : Tok}
    {f_is_row : Addr} {od_is_row an_is_row : Option Addr} {sl_is_row : Array (Option Value)} {oc_is_row kV_is_row dc_is_row pm_is_row cd_is_row ct_is_row : Value}
    {f_is_integer : Addr} {od_is_integer an_is_integer : Option Addr} {sl_is_integer : Array (Option Value)} {oc_is_integer kV_is_integer dc_is_integer pm_is_integer cd_is_integer ct_is_integer : Value}
    {f_is_value : Addr} {od_is_value an_is_value : Option Addr} {sl_is_value : Array (Option Value)} {oc_is_value kV_is_value dc_is_value pm_is_value cd_is_value ct_is_value : Value}
    {f_is_name : Addr} {od_is_name an_is_name : Option Addr} {sl_is_name : Array (Option Value)} {oc_is_name kV_is_name dc_is_name pm_is_name cd_is_name ct_is_name : Value}
    {f_are_names : Addr} {od_are_names an_are_names : Option Addr} {sl_are_names : Array (Option Value)} {oc_are_names kV_are_names dc_are_names pm_are_names cd_are_names ct_are_names : Value}
    {f_is_table : Addr} {od_is_table an_is_table : Option Addr} {sl_is_table : Array (Option Value)} {oc_is_table kV_is_table dc_is_table pm_is_table cd_is_table ct_is_table : Value}
    {f_are_values : Addr} {od_are_values an_are_values : Option Addr} {sl_are_values : Array (Option Value)} {oc_are_values kV_are_values dc_are_values pm_are_values cd_are_values ct_are_values : Value}
    {f_check_rows : Addr} {od_check_rows an_check_rows : Option Addr} {sl_check_rows : Array (Option Value)} {oc_check_rows kV_check_rows dc_check_rows pm_check_rows cd_check_rows ct_check_rows : Value}
    {f_law_bag : Addr} {od_law_bag an_law_bag : Option Addr} {sl_law_bag : Array (Option Value)} {oc_law_bag kV_law_bag dc_law_bag pm_law_bag cd_law_bag ct_law_bag : Value}
    {f_law_pick : Addr} {od_law_pick an_law_pick : Option Addr} {sl_law_pick : Array (Option Value)} {oc_law_pick kV_law_pick dc_law_pick pm_law_pick cd_law_pick ct_law_pick : Value}
    {f_law_name : Addr} {od_law_name an_law_name : Option Addr} {sl_law_name : Array (Option Value)} {oc_law_name kV_law_name dc_law_name pm_law_name cd_law_name ct_law_name : Value}
    {f_law_value : Addr} {od_law_value an_law_value : Option Addr} {sl_law_value : Array (Option Value)} {oc_law_value kV_law_value dc_law_value pm_law_value cd_law_value ct_law_value : Value}
    {f_law_tables : Addr} {od_law_tables an_law_tables : Option Addr} {sl_law_tables : Array (Option Value)} {oc_law_tables kV_law_tables dc_law_tables pm_law_tables cd_law_tables ct_law_tables : Value}
    {f_law_alike : Addr} {od_law_alike an_law_alike : Option Addr} {sl_law_alike : Array (Option Value)} {oc_law_alike kV_law_alike dc_law_alike pm_law_alike cd_law_alike ct_law_alike : Value}
    {f_law_made : Addr} {od_law_made an_law_made : Option Addr} {sl_law_made : Array (Option Value)} {oc_law_made kV_law_made dc_law_made pm_law_made cd_law_made ct_law_made : Value}
    {f_law_put : Addr} {od_law_put an_law_put : Option Addr} {sl_law_put : Array (Option Value)} {oc_law_put kV_law_put dc_law_put pm_law_put cd_law_put ct_law_put : Value}
    {f_law_tells : Addr} {od_law_tells an_law_tells : Option Addr} {sl_law_tells : Array (Option Value)} {oc_law_tells kV_law_tells dc_law_tells pm_law_tells cd_law_tells ct_law_tells : Value}
    {f_law_dealt : Addr} {od_law_dealt an_law_dealt : Option Addr} {sl_law_dealt : Array (Option Value)} {oc_law_dealt kV_law_dealt dc_law_dealt pm_law_dealt cd_law_dealt ct_law_dealt : Value}
    {C_Shape : Addr}
    {f_Shape_init : Addr} {od_Shape_init an_Shape_init : Option Addr} {sl_Shape_init : Array (Option Value)} {oc_Shape_init kV_Shape_init dc_Shape_init pm_Shape_init cd_Shape_init ct_Shape_init : Value}
    {f_Shape_fields_of : Addr} {od_Shape_fields_of an_Shape_fields_of : Option Addr} {sl_Shape_fields_of : Array (Option Value)} {oc_Shape_fields_of kV_Shape_fields_of dc_Shape_fields_of pm_Shape_fields_of cd_Shape_fields_of ct_Shape_fields_of : Value}
    {C_Store : Addr}
    {f_Store_init : Addr} {od_Store_init an_Store_init : Option Addr} {sl_Store_init : Array (Option Value)} {oc_Store_init kV_Store_init dc_Store_init pm_Store_init cd_Store_init ct_Store_init : Value}
    {f_Store_rows_of : Addr} {od_Store_rows_of an_Store_rows_of : Option Addr} {sl_Store_rows_of : Array (Option Value)} {oc_Store_rows_of kV_Store_rows_of dc_Store_rows_of pm_Store_rows_of cd_Store_rows_of ct_Store_rows_of : Value}
    {f_Store_with_row : Addr} {od_Store_with_row an_Store_with_row : Option Addr} {sl_Store_with_row : Array (Option Value)} {oc_Store_with_row kV_Store_with_row dc_Store_with_row pm_Store_with_row cd_Store_with_row ct_Store_with_row : Value}
    {f_Store_without_row : Addr} {od_Store_without_row an_Store_without_row : Option Addr} {sl_Store_without_row : Array (Option Value)} {oc_Store_without_row kV_Store_without_row dc_Store_without_row pm_Store_without_row cd_Store_without_row ct_Store_without_row : Value}
    {C_MetError : Addr}
    {C_BadShape : Addr} {nm_BadShape q_BadShape : Str} {N_BadShape : Addr} {bs_BadShape : List Value} {sn_BadShape : List Str} {sub_BadShape : List Value} {ab_BadShape : Bool} {col_BadShape : Option Bool} {dd_BadShape : Option Addr} {m0_BadShape m1_BadShape m2_BadShape m3_BadShape m5_BadShape : Option Value}
    {f_BadShape_init : Addr} {od_BadShape_init an_BadShape_init : Option Addr} {sl_BadShape_init : Array (Option Value)} {oc_BadShape_init kV_BadShape_init dc_BadShape_init pm_BadShape_init cd_BadShape_init ct_BadShape_init : Value}
    {C_BadName : Addr} {nm_BadName q_BadName : Str} {N_BadName : Addr} {bs_BadName : List Value} {sn_BadName : List Str} {sub_BadName : List Value} {ab_BadName : Bool} {col_BadName : Option Bool} {dd_BadName : Option Addr} {m0_BadName m1_BadName m2_BadName m3_BadName m5_BadName : Option Value}
    {f_BadName_init : Addr} {od_BadName_init an_BadName_init : Option Addr} {sl_BadName_init : Array (Option Value)} {oc_BadName_init kV_BadName_init dc_BadName_init pm_BadName_init cd_BadName_init ct_BadName_init : Value}
    {C_BadRows : Addr} {nm_BadRows q_BadRows : Str} {N_BadRows : Addr} {bs_BadRows : List Value} {sn_BadRows : List Str} {sub_BadRows : List Value} {ab_BadRows : Bool} {col_BadRows : Option Bool} {dd_BadRows : Option Addr} {m0_BadRows m1_BadRows m2_BadRows m3_BadRows m5_BadRows : Option Value}
    {f_BadRows_init : Addr} {od_BadRows_init an_BadRows_init : Option Addr} {sl_BadRows_init : Array (Option Value)} {oc_BadRows_init kV_BadRows_init dc_BadRows_init pm_BadRows_init cd_BadRows_init ct_BadRows_init : Value}
    {C_BadIndex : Addr} {nm_BadIndex q_BadIndex : Str} {N_BadIndex : Addr} {bs_BadIndex : List Value} {sn_BadIndex : List Str} {sub_BadIndex : List Value} {ab_BadIndex : Bool} {col_BadIndex : Option Bool} {dd_BadIndex : Option Addr} {m0_BadIndex m1_BadIndex m2_BadIndex m3_BadIndex m5_BadIndex : Option Value}
    {f_BadIndex_init : Addr} {od_BadIndex_init an_BadIndex_init : Option Addr} {sl_BadIndex_init : Array (Option Value)} {oc_BadIndex_init kV_BadIndex_init dc_BadIndex_init pm_BadIndex_init cd_BadIndex_init ct_BadIndex_init : Value}
    {C_TooMany : Addr}
    {f_law : Addr} {od_law an_law : Option Addr} {sl_law : Array (Option Value)} {oc_law kV_law dc_law pm_law cd_law ct_law : Value}
    (z_len : PySem.W.nsIn K mainGlobals "len" = some none)
    (z_list : PySem.W.nsIn K mainGlobals "list" = some none)
    (z_tuple : PySem.W.nsIn K mainGlobals "tuple" = some none)
    (z_isinstance : PySem.W.nsIn K mainGlobals "isinstance" = some none)
    (z_int : PySem.W.nsIn K mainGlobals "int" = some none)
    (z_range : PySem.W.nsIn K mainGlobals "range" = some none)
    (z_max : PySem.W.nsIn K mainGlobals "max" = some none)
    (z_all : PySem.W.nsIn K mainGlobals "all" = some none)
    (z_bool : PySem.W.nsIn K mainGlobals "bool" = some none)
    (z_dict : PySem.W.nsIn K mainGlobals "dict" = some none)
    (z_str : PySem.W.nsIn K mainGlobals "str" = some none)
    (z_enumerate : PySem.W.nsIn K mainGlobals "enumerate" = some none)
    (n_LETTERS : PySem.W.nsIn K mainGlobals "LETTERS" = some (some (.str abc tk_LETTERS)))
    (n_MOST_VALUE : PySem.W.nsIn K mainGlobals "MOST_VALUE" = some (some (.int 1000000000 tk_MOST_VALUE)))
    (n_MOST_ROWS : PySem.W.nsIn K mainGlobals "MOST_ROWS" = some (some (.int 300 tk_MOST_ROWS)))
    (a_is_row : PySem.W.nsIn K mainGlobals "is_row" = some (some (.ref f_is_row)))
    (l_is_row : K.lookup f_is_row = some ⟨oc_is_row, od_is_row, .func (PySem.W.fnOf "is_row" "is_row" (defArgs s_is_row) (defBody s_is_row) (defScope s_is_row) .none kV_is_row dc_is_row pm_is_row an_is_row cd_is_row ct_is_row), sl_is_row⟩)
    (c_is_row : PySem.W.codeIn K cd_is_row "is_row" = true)
    (k_is_row : PySem.W.keepIn K (.ref f_is_row) = true)
    (a_is_integer : PySem.W.nsIn K mainGlobals "is_integer" = some (some (.ref f_is_integer)))
    (l_is_integer : K.lookup f_is_integer = some ⟨oc_is_integer, od_is_integer, .func (PySem.W.fnOf "is_integer" "is_integer" (defArgs s_is_integer) (defBody s_is_integer) (defScope s_is_integer) .none kV_is_integer dc_is_integer pm_is_integer an_is_integer cd_is_integer ct_is_integer), sl_is_integer⟩)
    (c_is_integer : PySem.W.codeIn K cd_is_integer "is_integer" = true)
    (k_is_integer : PySem.W.keepIn K (.ref f_is_integer) = true)
    (a_is_value : PySem.W.nsIn K mainGlobals "is_value" = some (some (.ref f_is_value)))
    (l_is_value : K.lookup f_is_value = some ⟨oc_is_value, od_is_value, .func (PySem.W.fnOf "is_value" "is_value" (defArgs s_is_value) (defBody s_is_value) (defScope s_is_value) .none kV_is_value dc_is_value pm_is_value an_is_value cd_is_value ct_is_value), sl_is_value⟩)
    (c_is_value : PySem.W.codeIn K cd_is_value "is_value" = true)
    (k_is_value : PySem.W.keepIn K (.ref f_is_value) = true)
    (a_is_name : PySem.W.nsIn K mainGlobals "is_name" = some (some (.ref f_is_name)))
    (l_is_name : K.lookup f_is_name = some ⟨oc_is_name, od_is_name, .func (PySem.W.fnOf "is_name" "is_name" (defArgs s_is_name) (defBody s_is_name) (defScope s_is_name) .none kV_is_name dc_is_name pm_is_name an_is_name cd_is_name ct_is_name), sl_is_name⟩)
    (c_is_name : PySem.W.codeIn K cd_is_name "is_name" = true)
    (k_is_name : PySem.W.keepIn K (.ref f_is_name) = true)
    (a_are_names : PySem.W.nsIn K mainGlobals "are_names" = some (some (.ref f_are_names)))
    (l_are_names : K.lookup f_are_names = some ⟨oc_are_names, od_are_names, .func (PySem.W.fnOf "are_names" "are_names" (defArgs s_are_names) (defBody s_are_names) (defScope s_are_names) .none kV_are_names dc_are_names pm_are_names an_are_names cd_are_names ct_are_names), sl_are_names⟩)
    (c_are_names : PySem.W.codeIn K cd_are_names "are_names" = true)
    (k_are_names : PySem.W.keepIn K (.ref f_are_names) = true)
    (a_is_table : PySem.W.nsIn K mainGlobals "is_table" = some (some (.ref f_is_table)))
    (l_is_table : K.lookup f_is_table = some ⟨oc_is_table, od_is_table, .func (PySem.W.fnOf "is_table" "is_table" (defArgs s_is_table) (defBody s_is_table) (defScope s_is_table) .none kV_is_table dc_is_table pm_is_table an_is_table cd_is_table ct_is_table), sl_is_table⟩)
    (c_is_table : PySem.W.codeIn K cd_is_table "is_table" = true)
    (k_is_table : PySem.W.keepIn K (.ref f_is_table) = true)
    (a_are_values : PySem.W.nsIn K mainGlobals "are_values" = some (some (.ref f_are_values)))
    (l_are_values : K.lookup f_are_values = some ⟨oc_are_values, od_are_values, .func (PySem.W.fnOf "are_values" "are_values" (defArgs s_are_values) (defBody s_are_values) (defScope s_are_values) .none kV_are_values dc_are_values pm_are_values an_are_values cd_are_values ct_are_values), sl_are_values⟩)
    (c_are_values : PySem.W.codeIn K cd_are_values "are_values" = true)
    (k_are_values : PySem.W.keepIn K (.ref f_are_values) = true)
    (a_check_rows : PySem.W.nsIn K mainGlobals "check_rows" = some (some (.ref f_check_rows)))
    (l_check_rows : K.lookup f_check_rows = some ⟨oc_check_rows, od_check_rows, .func (PySem.W.fnOf "check_rows" "check_rows" (defArgs s_check_rows) (defBody s_check_rows) (defScope s_check_rows) .none kV_check_rows dc_check_rows pm_check_rows an_check_rows cd_check_rows ct_check_rows), sl_check_rows⟩)
    (c_check_rows : PySem.W.codeIn K cd_check_rows "check_rows" = true)
    (k_check_rows : PySem.W.keepIn K (.ref f_check_rows) = true)
    (a_law_bag : PySem.W.nsIn K mainGlobals "_law_bag" = some (some (.ref f_law_bag)))
    (l_law_bag : K.lookup f_law_bag = some ⟨oc_law_bag, od_law_bag, .func (PySem.W.fnOf "_law_bag" "_law_bag" (defArgs s__law_bag) (defBody s__law_bag) (defScope s__law_bag) .none kV_law_bag dc_law_bag pm_law_bag an_law_bag cd_law_bag ct_law_bag), sl_law_bag⟩)
    (c_law_bag : PySem.W.codeIn K cd_law_bag "_law_bag" = true)
    (k_law_bag : PySem.W.keepIn K (.ref f_law_bag) = true)
    (a_law_pick : PySem.W.nsIn K mainGlobals "_law_pick" = some (some (.ref f_law_pick)))
    (l_law_pick : K.lookup f_law_pick = some ⟨oc_law_pick, od_law_pick, .func (PySem.W.fnOf "_law_pick" "_law_pick" (defArgs s__law_pick) (defBody s__law_pick) (defScope s__law_pick) .none kV_law_pick dc_law_pick pm_law_pick an_law_pick cd_law_pick ct_law_pick), sl_law_pick⟩)
    (c_law_pick : PySem.W.codeIn K cd_law_pick "_law_pick" = true)
    (k_law_pick : PySem.W.keepIn K (.ref f_law_pick) = true)
    (a_law_name : PySem.W.nsIn K mainGlobals "_law_name" = some (some (.ref f_law_name)))
    (l_law_name : K.lookup f_law_name = some ⟨oc_law_name, od_law_name, .func (PySem.W.fnOf "_law_name" "_law_name" (defArgs s__law_name) (defBody s__law_name) (defScope s__law_name) .none kV_law_name dc_law_name pm_law_name an_law_name cd_law_name ct_law_name), sl_law_name⟩)
    (c_law_name : PySem.W.codeIn K cd_law_name "_law_name" = true)
    (k_law_name : PySem.W.keepIn K (.ref f_law_name) = true)
    (a_law_value : PySem.W.nsIn K mainGlobals "_law_value" = some (some (.ref f_law_value)))
    (l_law_value : K.lookup f_law_value = some ⟨oc_law_value, od_law_value, .func (PySem.W.fnOf "_law_value" "_law_value" (defArgs s__law_value) (defBody s__law_value) (defScope s__law_value) .none kV_law_value dc_law_value pm_law_value an_law_value cd_law_value ct_law_value), sl_law_value⟩)
    (c_law_value : PySem.W.codeIn K cd_law_value "_law_value" = true)
    (k_law_value : PySem.W.keepIn K (.ref f_law_value) = true)
    (a_law_tables : PySem.W.nsIn K mainGlobals "_law_tables" = some (some (.ref f_law_tables)))
    (l_law_tables : K.lookup f_law_tables = some ⟨oc_law_tables, od_law_tables, .func (PySem.W.fnOf "_law_tables" "_law_tables" (defArgs s__law_tables) (defBody s__law_tables) (defScope s__law_tables) .none kV_law_tables dc_law_tables pm_law_tables an_law_tables cd_law_tables ct_law_tables), sl_law_tables⟩)
    (c_law_tables : PySem.W.codeIn K cd_law_tables "_law_tables" = true)
    (k_law_tables : PySem.W.keepIn K (.ref f_law_tables) = true)
    (a_law_alike : PySem.W.nsIn K mainGlobals "_law_alike" = some (some (.ref f_law_alike)))
    (l_law_alike : K.lookup f_law_alike = some ⟨oc_law_alike, od_law_alike, .func (PySem.W.fnOf "_law_alike" "_law_alike" (defArgs s__law_alike) (defBody s__law_alike) (defScope s__law_alike) .none kV_law_alike dc_law_alike pm_law_alike an_law_alike cd_law_alike ct_law_alike), sl_law_alike⟩)
    (c_law_alike : PySem.W.codeIn K cd_law_alike "_law_alike" = true)
    (k_law_alike : PySem.W.keepIn K (.ref f_law_alike) = true)
    (a_law_made : PySem.W.nsIn K mainGlobals "_law_made" = some (some (.ref f_law_made)))
    (l_law_made : K.lookup f_law_made = some ⟨oc_law_made, od_law_made, .func (PySem.W.fnOf "_law_made" "_law_made" (defArgs s__law_made) (defBody s__law_made) (defScope s__law_made) .none kV_law_made dc_law_made pm_law_made an_law_made cd_law_made ct_law_made), sl_law_made⟩)
    (c_law_made : PySem.W.codeIn K cd_law_made "_law_made" = true)
    (k_law_made : PySem.W.keepIn K (.ref f_law_made) = true)
    (a_law_put : PySem.W.nsIn K mainGlobals "_law_put" = some (some (.ref f_law_put)))
    (l_law_put : K.lookup f_law_put = some ⟨oc_law_put, od_law_put, .func (PySem.W.fnOf "_law_put" "_law_put" (defArgs s__law_put) (defBody s__law_put) (defScope s__law_put) .none kV_law_put dc_law_put pm_law_put an_law_put cd_law_put ct_law_put), sl_law_put⟩)
    (c_law_put : PySem.W.codeIn K cd_law_put "_law_put" = true)
    (k_law_put : PySem.W.keepIn K (.ref f_law_put) = true)
    (a_law_tells : PySem.W.nsIn K mainGlobals "_law_tells" = some (some (.ref f_law_tells)))
    (l_law_tells : K.lookup f_law_tells = some ⟨oc_law_tells, od_law_tells, .func (PySem.W.fnOf "_law_tells" "_law_tells" (defArgs s__law_tells) (defBody s__law_tells) (defScope s__law_tells) .none kV_law_tells dc_law_tells pm_law_tells an_law_tells cd_law_tells ct_law_tells), sl_law_tells⟩)
    (c_law_tells : PySem.W.codeIn K cd_law_tells "_law_tells" = true)
    (k_law_tells : PySem.W.keepIn K (.ref f_law_tells) = true)
    (a_law_dealt : PySem.W.nsIn K mainGlobals "_law_dealt" = some (some (.ref f_law_dealt)))
    (l_law_dealt : K.lookup f_law_dealt = some ⟨oc_law_dealt, od_law_dealt, .func (PySem.W.fnOf "_law_dealt" "_law_dealt" (defArgs s__law_dealt) (defBody s__law_dealt) (defScope s__law_dealt) .none kV_law_dealt dc_law_dealt pm_law_dealt an_law_dealt cd_law_dealt ct_law_dealt), sl_law_dealt⟩)
    (c_law_dealt : PySem.W.codeIn K cd_law_dealt "_law_dealt" = true)
    (k_law_dealt : PySem.W.keepIn K (.ref f_law_dealt) = true)
    (m_Shape : PySem.W.nsIn K mainGlobals "Shape" = some (some (.ref C_Shape)))
    (a_Shape_init : PySem.W.findIn K (.ref C_Shape) "__init__" = some (some (.ref f_Shape_init)))
    (l_Shape_init : K.lookup f_Shape_init = some ⟨oc_Shape_init, od_Shape_init, .func (PySem.W.fnOf "__init__" "Shape.__init__" (defArgs s_Shape_init) (defBody s_Shape_init) (defScope s_Shape_init) .none kV_Shape_init dc_Shape_init pm_Shape_init an_Shape_init cd_Shape_init ct_Shape_init), sl_Shape_init⟩)
    (c_Shape_init : PySem.W.codeIn K cd_Shape_init "Shape.__init__" = true)
    (k_Shape_init : PySem.W.keepIn K (.ref f_Shape_init) = true)
    (i_Shape_init : PySem.W.isFn K (.ref f_Shape_init) = true)
    (a_Shape_fields_of : PySem.W.findIn K (.ref C_Shape) "fields_of" = some (some (.ref f_Shape_fields_of)))
    (l_Shape_fields_of : K.lookup f_Shape_fields_of = some ⟨oc_Shape_fields_of, od_Shape_fields_of, .func (PySem.W.fnOf "fields_of" "Shape.fields_of" (defArgs s_Shape_fields_of) (defBody s_Shape_fields_of) (defScope s_Shape_fields_of) .none kV_Shape_fields_of dc_Shape_fields_of pm_Shape_fields_of an_Shape_fields_of cd_Shape_fields_of ct_Shape_fields_of), sl_Shape_fields_of⟩)
    (c_Shape_fields_of : PySem.W.codeIn K cd_Shape_fields_of "Shape.fields_of" = true)
    (k_Shape_fields_of : PySem.W.keepIn K (.ref f_Shape_fields_of) = true)
    (i_Shape_fields_of : PySem.W.isFn K (.ref f_Shape_fields_of) = true)
    (pg_Shape : PySem.W.plainGet K C_Shape Str.empty = true)
    (hd_Shape : PySem.W.hasDictIn K C_Shape = true)
    (po_Shape : PySem.W.plainOver K C_Shape = true)
    (sa_Shape : PySem.W.findIn K (.ref C_Shape) "__setattr__" = some (some (.builtin "object.__setattr__")))
    (mk_Shape : PySem.W.makesIn K C_Shape = true)
    (kc_Shape : PySem.W.keepIn K (.ref C_Shape) = true)
    (na_Shape_tables : PySem.W.findIn K (.ref C_Shape) "tables" = some none)
    (ha_Shape : PySem.W.findIn K (.ref C_Shape) "__class__" = some (some (.builtin "object.__class__")))
    (hn_Shape : PySem.W.specialIn K (.builtin "object.__class__") "__get__" = some (some (.builtin "getset_descriptor.__get__")))
    (ht_Shape : PySem.W.takesIn K (.builtin "object.__class__") = some true)
    (hm_Shape : PySem.W.mroIn K C_Shape (.type "object") = some true)
    (ne_Shape : PySem.W.findIn K (.ref C_Shape) "__ne__" = some (some (.builtin "object.__ne__")))
    (ob_Shape : PySem.W.subIn K (.ref C_Shape) (.type "object") = some true)
    (kt_Shape_NoneType : PySem.W.kitOne K (.type "NoneType") (.ref C_Shape) = some false)
    (nf_Shape_NoneType : PySem.W.notFirst K C_Shape (.type "NoneType") = true)
    (kt_Shape_bool : PySem.W.kitOne K (.type "bool") (.ref C_Shape) = some false)
    (nf_Shape_bool : PySem.W.notFirst K C_Shape (.type "bool") = true)
    (kt_Shape_int : PySem.W.kitOne K (.type "int") (.ref C_Shape) = some false)
    (nf_Shape_int : PySem.W.notFirst K C_Shape (.type "int") = true)
    (kt_Shape_str : PySem.W.kitOne K (.type "str") (.ref C_Shape) = some false)
    (nf_Shape_str : PySem.W.notFirst K C_Shape (.type "str") = true)
    (kt_Shape_list : PySem.W.kitOne K (.type "list") (.ref C_Shape) = some false)
    (nf_Shape_list : PySem.W.notFirst K C_Shape (.type "list") = true)
    (kt_Shape_tuple : PySem.W.kitOne K (.type "tuple") (.ref C_Shape) = some false)
    (nf_Shape_tuple : PySem.W.notFirst K C_Shape (.type "tuple") = true)
    (kt_Shape_dict : PySem.W.kitOne K (.type "dict") (.ref C_Shape) = some false)
    (nf_Shape_dict : PySem.W.notFirst K C_Shape (.type "dict") = true)
    (m_Store : PySem.W.nsIn K mainGlobals "Store" = some (some (.ref C_Store)))
    (a_Store_init : PySem.W.findIn K (.ref C_Store) "__init__" = some (some (.ref f_Store_init)))
    (l_Store_init : K.lookup f_Store_init = some ⟨oc_Store_init, od_Store_init, .func (PySem.W.fnOf "__init__" "Store.__init__" (defArgs s_Store_init) (defBody s_Store_init) (defScope s_Store_init) .none kV_Store_init dc_Store_init pm_Store_init an_Store_init cd_Store_init ct_Store_init), sl_Store_init⟩)
    (c_Store_init : PySem.W.codeIn K cd_Store_init "Store.__init__" = true)
    (k_Store_init : PySem.W.keepIn K (.ref f_Store_init) = true)
    (i_Store_init : PySem.W.isFn K (.ref f_Store_init) = true)
    (a_Store_rows_of : PySem.W.findIn K (.ref C_Store) "rows_of" = some (some (.ref f_Store_rows_of)))
    (l_Store_rows_of : K.lookup f_Store_rows_of = some ⟨oc_Store_rows_of, od_Store_rows_of, .func (PySem.W.fnOf "rows_of" "Store.rows_of" (defArgs s_Store_rows_of) (defBody s_Store_rows_of) (defScope s_Store_rows_of) .none kV_Store_rows_of dc_Store_rows_of pm_Store_rows_of an_Store_rows_of cd_Store_rows_of ct_Store_rows_of), sl_Store_rows_of⟩)
    (c_Store_rows_of : PySem.W.codeIn K cd_Store_rows_of "Store.rows_of" = true)
    (k_Store_rows_of : PySem.W.keepIn K (.ref f_Store_rows_of) = true)
    (i_Store_rows_of : PySem.W.isFn K (.ref f_Store_rows_of) = true)
    (a_Store_with_row : PySem.W.findIn K (.ref C_Store) "with_row" = some (some (.ref f_Store_with_row)))
    (l_Store_with_row : K.lookup f_Store_with_row = some ⟨oc_Store_with_row, od_Store_with_row, .func (PySem.W.fnOf "with_row" "Store.with_row" (defArgs s_Store_with_row) (defBody s_Store_with_row) (defScope s_Store_with_row) .none kV_Store_with_row dc_Store_with_row pm_Store_with_row an_Store_with_row cd_Store_with_row ct_Store_with_row), sl_Store_with_row⟩)
    (c_Store_with_row : PySem.W.codeIn K cd_Store_with_row "Store.with_row" = true)
    (k_Store_with_row : PySem.W.keepIn K (.ref f_Store_with_row) = true)
    (i_Store_with_row : PySem.W.isFn K (.ref f_Store_with_row) = true)
    (a_Store_without_row : PySem.W.findIn K (.ref C_Store) "without_row" = some (some (.ref f_Store_without_row)))
    (l_Store_without_row : K.lookup f_Store_without_row = some ⟨oc_Store_without_row, od_Store_without_row, .func (PySem.W.fnOf "without_row" "Store.without_row" (defArgs s_Store_without_row) (defBody s_Store_without_row) (defScope s_Store_without_row) .none kV_Store_without_row dc_Store_without_row pm_Store_without_row an_Store_without_row cd_Store_without_row ct_Store_without_row), sl_Store_without_row⟩)
    (c_Store_without_row : PySem.W.codeIn K cd_Store_without_row "Store.without_row" = true)
    (k_Store_without_row : PySem.W.keepIn K (.ref f_Store_without_row) = true)
    (i_Store_without_row : PySem.W.isFn K (.ref f_Store_without_row) = true)
    (pg_Store : PySem.W.plainGet K C_Store Str.empty = true)
    (hd_Store : PySem.W.hasDictIn K C_Store = true)
    (po_Store : PySem.W.plainOver K C_Store = true)
    (sa_Store : PySem.W.findIn K (.ref C_Store) "__setattr__" = some (some (.builtin "object.__setattr__")))
    (mk_Store : PySem.W.makesIn K C_Store = true)
    (kc_Store : PySem.W.keepIn K (.ref C_Store) = true)
    (na_Store_shape : PySem.W.findIn K (.ref C_Store) "shape" = some none)
    (na_Store_kept : PySem.W.findIn K (.ref C_Store) "kept" = some none)
    (ha_Store : PySem.W.findIn K (.ref C_Store) "__class__" = some (some (.builtin "object.__class__")))
    (hn_Store : PySem.W.specialIn K (.builtin "object.__class__") "__get__" = some (some (.builtin "getset_descriptor.__get__")))
    (ht_Store : PySem.W.takesIn K (.builtin "object.__class__") = some true)
    (hm_Store : PySem.W.mroIn K C_Store (.type "object") = some true)
    (ne_Store : PySem.W.findIn K (.ref C_Store) "__ne__" = some (some (.builtin "object.__ne__")))
    (ob_Store : PySem.W.subIn K (.ref C_Store) (.type "object") = some true)
    (kt_Store_NoneType : PySem.W.kitOne K (.type "NoneType") (.ref C_Store) = some false)
    (nf_Store_NoneType : PySem.W.notFirst K C_Store (.type "NoneType") = true)
    (kt_Store_bool : PySem.W.kitOne K (.type "bool") (.ref C_Store) = some false)
    (nf_Store_bool : PySem.W.notFirst K C_Store (.type "bool") = true)
    (kt_Store_int : PySem.W.kitOne K (.type "int") (.ref C_Store) = some false)
    (nf_Store_int : PySem.W.notFirst K C_Store (.type "int") = true)
    (kt_Store_str : PySem.W.kitOne K (.type "str") (.ref C_Store) = some false)
    (nf_Store_str : PySem.W.notFirst K C_Store (.type "str") = true)
    (kt_Store_list : PySem.W.kitOne K (.type "list") (.ref C_Store) = some false)
    (nf_Store_list : PySem.W.notFirst K C_Store (.type "list") = true)
    (kt_Store_tuple : PySem.W.kitOne K (.type "tuple") (.ref C_Store) = some false)
    (nf_Store_tuple : PySem.W.notFirst K C_Store (.type "tuple") = true)
    (kt_Store_dict : PySem.W.kitOne K (.type "dict") (.ref C_Store) = some false)
    (nf_Store_dict : PySem.W.notFirst K C_Store (.type "dict") = true)
    (m_BadShape : PySem.W.nsIn K mainGlobals "BadShape" = some (some (.ref C_BadShape)))
    (x_BadShape : K.lookup C_BadShape = some (excClassObj nm_BadShape q_BadShape C_BadShape N_BadShape bs_BadShape [.ref C_MetError, .type "ValueError", .type "Exception", .type "BaseException", .type "object"] true sn_BadShape sub_BadShape ab_BadShape col_BadShape dd_BadShape m0_BadShape m1_BadShape m2_BadShape m3_BadShape m5_BadShape "ValueError.__new__"))
    (s_BadShape : PySem.W.findIn K (.ref C_BadShape) "__setattr__" = some (some (.builtin "object.__setattr__")))
    (ga_BadShape : PySem.W.findIn K (.ref C_BadShape) "__getattribute__" = some (some (.builtin "BaseException.__getattribute__")))
    (gg_BadShape : PySem.W.findIn K (.ref C_BadShape) "__getattr__" = some none)
    (no_BadShape : PySem.W.findIn K (.ref C_BadShape) "at" = some none)
    (a_BadShape_init : PySem.W.findIn K (.ref C_BadShape) "__init__" = some (some (.ref f_BadShape_init)))
    (l_BadShape_init : K.lookup f_BadShape_init = some ⟨oc_BadShape_init, od_BadShape_init, .func (PySem.W.fnOf "__init__" "BadShape.__init__" (defArgs s_BadShape_init) (defBody s_BadShape_init) (defScope s_BadShape_init) .none kV_BadShape_init dc_BadShape_init pm_BadShape_init an_BadShape_init cd_BadShape_init ct_BadShape_init), sl_BadShape_init⟩)
    (c_BadShape_init : PySem.W.codeIn K cd_BadShape_init "BadShape.__init__" = true)
    (k_BadShape_init : PySem.W.keepIn K (.ref f_BadShape_init) = true)
    (t_BadShape_init : PySem.W.typeIn K (.ref f_BadShape_init) = some (.type "function"))
    (e_BadShape : PySem.W.subIn K (.ref C_BadShape) (.type "BaseException") = some true)
    (ty_BadShape : PySem.W.typeIn K (.ref C_BadShape) = some (.type "type"))
    (kk_BadShape : PySem.W.keepIn K (.ref C_BadShape) = true)
    (hd_BadShape : PySem.W.hasDictIn K C_BadShape = true)
    (m_BadName : PySem.W.nsIn K mainGlobals "BadName" = some (some (.ref C_BadName)))
    (x_BadName : K.lookup C_BadName = some (excClassObj nm_BadName q_BadName C_BadName N_BadName bs_BadName [.ref C_MetError, .type "ValueError", .type "Exception", .type "BaseException", .type "object"] true sn_BadName sub_BadName ab_BadName col_BadName dd_BadName m0_BadName m1_BadName m2_BadName m3_BadName m5_BadName "ValueError.__new__"))
    (s_BadName : PySem.W.findIn K (.ref C_BadName) "__setattr__" = some (some (.builtin "object.__setattr__")))
    (ga_BadName : PySem.W.findIn K (.ref C_BadName) "__getattribute__" = some (some (.builtin "BaseException.__getattribute__")))
    (gg_BadName : PySem.W.findIn K (.ref C_BadName) "__getattr__" = some none)
    (no_BadName : PySem.W.findIn K (.ref C_BadName) "value" = some none)
    (a_BadName_init : PySem.W.findIn K (.ref C_BadName) "__init__" = some (some (.ref f_BadName_init)))
    (l_BadName_init : K.lookup f_BadName_init = some ⟨oc_BadName_init, od_BadName_init, .func (PySem.W.fnOf "__init__" "BadName.__init__" (defArgs s_BadName_init) (defBody s_BadName_init) (defScope s_BadName_init) .none kV_BadName_init dc_BadName_init pm_BadName_init an_BadName_init cd_BadName_init ct_BadName_init), sl_BadName_init⟩)
    (c_BadName_init : PySem.W.codeIn K cd_BadName_init "BadName.__init__" = true)
    (k_BadName_init : PySem.W.keepIn K (.ref f_BadName_init) = true)
    (t_BadName_init : PySem.W.typeIn K (.ref f_BadName_init) = some (.type "function"))
    (e_BadName : PySem.W.subIn K (.ref C_BadName) (.type "BaseException") = some true)
    (ty_BadName : PySem.W.typeIn K (.ref C_BadName) = some (.type "type"))
    (kk_BadName : PySem.W.keepIn K (.ref C_BadName) = true)
    (hd_BadName : PySem.W.hasDictIn K C_BadName = true)
    (m_BadRows : PySem.W.nsIn K mainGlobals "BadRows" = some (some (.ref C_BadRows)))
    (x_BadRows : K.lookup C_BadRows = some (excClassObj nm_BadRows q_BadRows C_BadRows N_BadRows bs_BadRows [.ref C_MetError, .type "ValueError", .type "Exception", .type "BaseException", .type "object"] true sn_BadRows sub_BadRows ab_BadRows col_BadRows dd_BadRows m0_BadRows m1_BadRows m2_BadRows m3_BadRows m5_BadRows "ValueError.__new__"))
    (s_BadRows : PySem.W.findIn K (.ref C_BadRows) "__setattr__" = some (some (.builtin "object.__setattr__")))
    (ga_BadRows : PySem.W.findIn K (.ref C_BadRows) "__getattribute__" = some (some (.builtin "BaseException.__getattribute__")))
    (gg_BadRows : PySem.W.findIn K (.ref C_BadRows) "__getattr__" = some none)
    (no_BadRows : PySem.W.findIn K (.ref C_BadRows) "value" = some none)
    (a_BadRows_init : PySem.W.findIn K (.ref C_BadRows) "__init__" = some (some (.ref f_BadRows_init)))
    (l_BadRows_init : K.lookup f_BadRows_init = some ⟨oc_BadRows_init, od_BadRows_init, .func (PySem.W.fnOf "__init__" "BadRows.__init__" (defArgs s_BadRows_init) (defBody s_BadRows_init) (defScope s_BadRows_init) .none kV_BadRows_init dc_BadRows_init pm_BadRows_init an_BadRows_init cd_BadRows_init ct_BadRows_init), sl_BadRows_init⟩)
    (c_BadRows_init : PySem.W.codeIn K cd_BadRows_init "BadRows.__init__" = true)
    (k_BadRows_init : PySem.W.keepIn K (.ref f_BadRows_init) = true)
    (t_BadRows_init : PySem.W.typeIn K (.ref f_BadRows_init) = some (.type "function"))
    (e_BadRows : PySem.W.subIn K (.ref C_BadRows) (.type "BaseException") = some true)
    (ty_BadRows : PySem.W.typeIn K (.ref C_BadRows) = some (.type "type"))
    (kk_BadRows : PySem.W.keepIn K (.ref C_BadRows) = true)
    (hd_BadRows : PySem.W.hasDictIn K C_BadRows = true)
    (m_BadIndex : PySem.W.nsIn K mainGlobals "BadIndex" = some (some (.ref C_BadIndex)))
    (x_BadIndex : K.lookup C_BadIndex = some (excClassObj nm_BadIndex q_BadIndex C_BadIndex N_BadIndex bs_BadIndex [.ref C_MetError, .type "ValueError", .type "Exception", .type "BaseException", .type "object"] true sn_BadIndex sub_BadIndex ab_BadIndex col_BadIndex dd_BadIndex m0_BadIndex m1_BadIndex m2_BadIndex m3_BadIndex m5_BadIndex "ValueError.__new__"))
    (s_BadIndex : PySem.W.findIn K (.ref C_BadIndex) "__setattr__" = some (some (.builtin "object.__setattr__")))
    (ga_BadIndex : PySem.W.findIn K (.ref C_BadIndex) "__getattribute__" = some (some (.builtin "BaseException.__getattribute__")))
    (gg_BadIndex : PySem.W.findIn K (.ref C_BadIndex) "__getattr__" = some none)
    (no_BadIndex : PySem.W.findIn K (.ref C_BadIndex) "value" = some none)
    (a_BadIndex_init : PySem.W.findIn K (.ref C_BadIndex) "__init__" = some (some (.ref f_BadIndex_init)))
    (l_BadIndex_init : K.lookup f_BadIndex_init = some ⟨oc_BadIndex_init, od_BadIndex_init, .func (PySem.W.fnOf "__init__" "BadIndex.__init__" (defArgs s_BadIndex_init) (defBody s_BadIndex_init) (defScope s_BadIndex_init) .none kV_BadIndex_init dc_BadIndex_init pm_BadIndex_init an_BadIndex_init cd_BadIndex_init ct_BadIndex_init), sl_BadIndex_init⟩)
    (c_BadIndex_init : PySem.W.codeIn K cd_BadIndex_init "BadIndex.__init__" = true)
    (k_BadIndex_init : PySem.W.keepIn K (.ref f_BadIndex_init) = true)
    (t_BadIndex_init : PySem.W.typeIn K (.ref f_BadIndex_init) = some (.type "function"))
    (e_BadIndex : PySem.W.subIn K (.ref C_BadIndex) (.type "BaseException") = some true)
    (ty_BadIndex : PySem.W.typeIn K (.ref C_BadIndex) = some (.type "type"))
    (kk_BadIndex : PySem.W.keepIn K (.ref C_BadIndex) = true)
    (hd_BadIndex : PySem.W.hasDictIn K C_BadIndex = true)
    (m_TooMany : PySem.W.nsIn K mainGlobals "TooMany" = some (some (.ref C_TooMany)))
    (z0_TooMany : PySem.W.excIn K C_TooMany [.type "ValueError", .type "Exception", .type "BaseException", .type "object"] "ValueError.__new__" = true)
    (kk_TooMany : PySem.W.keepIn K (.ref C_TooMany) = true)
    (e_TooMany : PySem.W.subIn K (.ref C_TooMany) (.type "BaseException") = some true)
    (ty_TooMany : PySem.W.typeIn K (.ref C_TooMany) = some (.type "type"))
    (xm_TooMany_TooMany : PySem.W.exmOne K (.ref C_TooMany) (.ref C_TooMany) = some true)
    (xm_BadRows_TooMany : PySem.W.exmOne K (.ref C_BadRows) (.ref C_TooMany) = some false)
    (xm_BadRows_BadRows : PySem.W.exmOne K (.ref C_BadRows) (.ref C_BadRows) = some true)
    (xm_BadName_TooMany : PySem.W.exmOne K (.ref C_BadName) (.ref C_TooMany) = some false)
    (xm_BadName_BadRows : PySem.W.exmOne K (.ref C_BadName) (.ref C_BadRows) = some false)
    (xm_BadName_BadName : PySem.W.exmOne K (.ref C_BadName) (.ref C_BadName) = some true)
    (a_law : PySem.W.nsIn K mainGlobals "law" = some (some (.ref f_law)))
    (l_law : K.lookup f_law = some ⟨oc_law, od_law, .func (PySem.W.fnOf "law" "law" (defArgs s_law) (defBody s_law) (defScope s_law) .none kV_law dc_law pm_law an_law cd_law ct_law), sl_law⟩)
    (c_law : PySem.W.codeIn K cd_law "law" = true)
    (k_law : PySem.W.keepIn K (.ref f_law) = true) :
    ∃ fd : FuncData, (∀ (s : Shared) (v : Value), BindsTo s fd ⟨[v], []⟩ [("_law_script", v)]) ∧ ∀ base : Heap, K.In base → base.Ns mainGlobals mg → FnOk l.prog w K mg base CX0 9 fa fd ["_law_script"] (spLaw K) := by
  have e := hfa.symm.trans (PySem.W.mg_of X G a_law)
  cases e
  have B : Bi mg := ⟨PySem.W.mg_none_of X G z_len, PySem.W.mg_none_of X G z_list, PySem.W.mg_none_of X G z_tuple, PySem.W.mg_none_of X G z_isinstance, PySem.W.mg_none_of X G z_int, PySem.W.mg_none_of X G z_range, PySem.W.mg_none_of X G z_max, PySem.W.mg_none_of X G z_all, PySem.W.mg_none_of X G z_bool, PySem.W.mg_none_of X G z_dict, PySem.W.mg_none_of X G z_str, PySem.W.mg_none_of X G z_enumerate⟩
  have N_LETTERS := PySem.W.mg_of X G n_LETTERS
  have N_MOST_VALUE := PySem.W.mg_of X G n_MOST_VALUE
  have N_MOST_ROWS := PySem.W.mg_of X G n_MOST_ROWS
  have F_is_row := fun_mk (st := s_is_row) l_is_row c_is_row k_is_row
  have b_is_row := F_is_row.binds (ps := ["thing"]) fun _ _ _ _ _ _ us hl => match us, hl with | [_], _ => rfl
  have D_is_row : Dfn K mg "is_row" s_is_row ["thing"] := ⟨_, _, F_is_row, PySem.W.mg_of X G a_is_row, b_is_row⟩
  have F_is_integer := fun_mk (st := s_is_integer) l_is_integer c_is_integer k_is_integer
  have b_is_integer := F_is_integer.binds (ps := ["thing"]) fun _ _ _ _ _ _ us hl => match us, hl with | [_], _ => rfl
  have D_is_integer : Dfn K mg "is_integer" s_is_integer ["thing"] := ⟨_, _, F_is_integer, PySem.W.mg_of X G a_is_integer, b_is_integer⟩
  have F_is_value := fun_mk (st := s_is_value) l_is_value c_is_value k_is_value
  have b_is_value := F_is_value.binds (ps := ["thing"]) fun _ _ _ _ _ _ us hl => match us, hl with | [_], _ => rfl
  have D_is_value : Dfn K mg "is_value" s_is_value ["thing"] := ⟨_, _, F_is_value, PySem.W.mg_of X G a_is_value, b_is_value⟩
  have F_is_name := fun_mk (st := s_is_name) l_is_name c_is_name k_is_name
  have b_is_name := F_is_name.binds (ps := ["thing"]) fun _ _ _ _ _ _ us hl => match us, hl with | [_], _ => rfl
  have D_is_name : Dfn K mg "is_name" s_is_name ["thing"] := ⟨_, _, F_is_name, PySem.W.mg_of X G a_is_name, b_is_name⟩
  have F_are_names := fun_mk (st := s_are_names) l_are_names c_are_names k_are_names
  have b_are_names := F_are_names.binds (ps := ["thing", "least", "most"]) fun _ _ _ _ _ _ us hl => match us, hl with | [_, _, _], _ => rfl
  have D_are_names : Dfn K mg "are_names" s_are_names ["thing", "least", "most"] := ⟨_, _, F_are_names, PySem.W.mg_of X G a_are_names, b_are_names⟩
  have F_is_table := fun_mk (st := s_is_table) l_is_table c_is_table k_is_table
  have b_is_table := F_is_table.binds (ps := ["thing"]) fun _ _ _ _ _ _ us hl => match us, hl with | [_], _ => rfl
  have D_is_table : Dfn K mg "is_table" s_is_table ["thing"] := ⟨_, _, F_is_table, PySem.W.mg_of X G a_is_table, b_is_table⟩
  have F_are_values := fun_mk (st := s_are_values) l_are_values c_are_values k_are_values
  have b_are_values := F_are_values.binds (ps := ["thing", "many"]) fun _ _ _ _ _ _ us hl => match us, hl with | [_, _], _ => rfl
  have D_are_values : Dfn K mg "are_values" s_are_values ["thing", "many"] := ⟨_, _, F_are_values, PySem.W.mg_of X G a_are_values, b_are_values⟩
  have F_check_rows := fun_mk (st := s_check_rows) l_check_rows c_check_rows k_check_rows
  have b_check_rows := F_check_rows.binds (ps := ["shape", "rows"]) fun _ _ _ _ _ _ us hl => match us, hl with | [_, _], _ => rfl
  have D_check_rows : Dfn K mg "check_rows" s_check_rows ["shape", "rows"] := ⟨_, _, F_check_rows, PySem.W.mg_of X G a_check_rows, b_check_rows⟩
  have F_law_bag := fun_mk (st := s__law_bag) l_law_bag c_law_bag k_law_bag
  have b_law_bag := F_law_bag.binds (ps := ["_law_script"]) fun _ _ _ _ _ _ us hl => match us, hl with | [_], _ => rfl
  have D_law_bag : Dfn K mg "_law_bag" s__law_bag ["_law_script"] := ⟨_, _, F_law_bag, PySem.W.mg_of X G a_law_bag, b_law_bag⟩
  have F_law_pick := fun_mk (st := s__law_pick) l_law_pick c_law_pick k_law_pick
  have b_law_pick := F_law_pick.binds (ps := ["_law_bag_here", "_law_many"]) fun _ _ _ _ _ _ us hl => match us, hl with | [_, _], _ => rfl
  have D_law_pick : Dfn K mg "_law_pick" s__law_pick ["_law_bag_here", "_law_many"] := ⟨_, _, F_law_pick, PySem.W.mg_of X G a_law_pick, b_law_pick⟩
  have F_law_name := fun_mk (st := s__law_name) l_law_name c_law_name k_law_name
  have b_law_name := F_law_name.binds (ps := ["_law_bag_here", "_law_taken"]) fun _ _ _ _ _ _ us hl => match us, hl with | [_, _], _ => rfl
  have D_law_name : Dfn K mg "_law_name" s__law_name ["_law_bag_here", "_law_taken"] := ⟨_, _, F_law_name, PySem.W.mg_of X G a_law_name, b_law_name⟩
  have F_law_value := fun_mk (st := s__law_value) l_law_value c_law_value k_law_value
  have b_law_value := F_law_value.binds (ps := ["_law_bag_here"]) fun _ _ _ _ _ _ us hl => match us, hl with | [_], _ => rfl
  have D_law_value : Dfn K mg "_law_value" s__law_value ["_law_bag_here"] := ⟨_, _, F_law_value, PySem.W.mg_of X G a_law_value, b_law_value⟩
  have F_law_tables := fun_mk (st := s__law_tables) l_law_tables c_law_tables k_law_tables
  have b_law_tables := F_law_tables.binds (ps := ["_law_bag_here"]) fun _ _ _ _ _ _ us hl => match us, hl with | [_], _ => rfl
  have D_law_tables : Dfn K mg "_law_tables" s__law_tables ["_law_bag_here"] := ⟨_, _, F_law_tables, PySem.W.mg_of X G a_law_tables, b_law_tables⟩
  have F_law_alike := fun_mk (st := s__law_alike) l_law_alike c_law_alike k_law_alike
  have b_law_alike := F_law_alike.binds (ps := ["_law_one", "_law_other"]) fun _ _ _ _ _ _ us hl => match us, hl with | [_, _], _ => rfl
  have D_law_alike : Dfn K mg "_law_alike" s__law_alike ["_law_one", "_law_other"] := ⟨_, _, F_law_alike, PySem.W.mg_of X G a_law_alike, b_law_alike⟩
  have F_law_made := fun_mk (st := s__law_made) l_law_made c_law_made k_law_made
  have b_law_made := F_law_made.binds (ps := ["_law_shape", "_law_rows"]) fun _ _ _ _ _ _ us hl => match us, hl with | [_, _], _ => rfl
  have D_law_made : Dfn K mg "_law_made" s__law_made ["_law_shape", "_law_rows"] := ⟨_, _, F_law_made, PySem.W.mg_of X G a_law_made, b_law_made⟩
  have F_law_put := fun_mk (st := s__law_put) l_law_put c_law_put k_law_put
  have b_law_put := F_law_put.binds (ps := ["_law_store", "_law_name_here", "_law_row"]) fun _ _ _ _ _ _ us hl => match us, hl with | [_, _, _], _ => rfl
  have D_law_put : Dfn K mg "_law_put" s__law_put ["_law_store", "_law_name_here", "_law_row"] := ⟨_, _, F_law_put, PySem.W.mg_of X G a_law_put, b_law_put⟩
  have F_law_tells := fun_mk (st := s__law_tells) l_law_tells c_law_tells k_law_tells
  have b_law_tells := F_law_tells.binds (ps := ["_law_store", "_law_tables_here", "_law_rows"]) fun _ _ _ _ _ _ us hl => match us, hl with | [_, _, _], _ => rfl
  have D_law_tells : Dfn K mg "_law_tells" s__law_tells ["_law_store", "_law_tables_here", "_law_rows"] := ⟨_, _, F_law_tells, PySem.W.mg_of X G a_law_tells, b_law_tells⟩
  have F_law_dealt := fun_mk (st := s__law_dealt) l_law_dealt c_law_dealt k_law_dealt
  have b_law_dealt := F_law_dealt.binds (ps := ["_law_bag_here", "_law_tables_here", "_law_many"]) fun _ _ _ _ _ _ us hl => match us, hl with | [_, _, _], _ => rfl
  have D_law_dealt : Dfn K mg "_law_dealt" s__law_dealt ["_law_bag_here", "_law_tables_here", "_law_many"] := ⟨_, _, F_law_dealt, PySem.W.mg_of X G a_law_dealt, b_law_dealt⟩
  have F_Shape_init := fun_mk (st := s_Shape_init) l_Shape_init c_Shape_init k_Shape_init
  have b_Shape_init := F_Shape_init.binds (ps := ["self", "tables"]) fun _ _ _ _ _ _ us hl => match us, hl with | [_, _], _ => rfl
  have M_Shape_init : Meth K C_Shape "__init__" f_Shape_init := ⟨a_Shape_init, i_Shape_init, k_Shape_init⟩
  have F_Shape_fields_of := fun_mk (st := s_Shape_fields_of) l_Shape_fields_of c_Shape_fields_of k_Shape_fields_of
  have b_Shape_fields_of := F_Shape_fields_of.binds (ps := ["self", "name"]) fun _ _ _ _ _ _ us hl => match us, hl with | [_, _], _ => rfl
  have M_Shape_fields_of : Meth K C_Shape "fields_of" f_Shape_fields_of := ⟨a_Shape_fields_of, i_Shape_fields_of, k_Shape_fields_of⟩
  have CL_Shape : Cls K C_Shape := ⟨pg_Shape, hd_Shape, po_Shape, sa_Shape⟩
  have XX_Shape : InsX K C_Shape := ⟨CL_Shape, ha_Shape, hn_Shape, ht_Shape, hm_Shape, by simp only [List.mem_cons, List.not_mem_nil, or_false, forall_eq_or_imp, forall_eq]; exact ⟨kt_Shape_NoneType, kt_Shape_bool, kt_Shape_int, kt_Shape_str, kt_Shape_list, kt_Shape_tuple, kt_Shape_dict⟩⟩
  have F_Store_init := fun_mk (st := s_Store_init) l_Store_init c_Store_init k_Store_init
  have b_Store_init := F_Store_init.binds (ps := ["self", "shape", "rows"]) fun _ _ _ _ _ _ us hl => match us, hl with | [_, _, _], _ => rfl
  have M_Store_init : Meth K C_Store "__init__" f_Store_init := ⟨a_Store_init, i_Store_init, k_Store_init⟩
  have F_Store_rows_of := fun_mk (st := s_Store_rows_of) l_Store_rows_of c_Store_rows_of k_Store_rows_of
  have b_Store_rows_of := F_Store_rows_of.binds (ps := ["self", "name"]) fun _ _ _ _ _ _ us hl => match us, hl with | [_, _], _ => rfl
  have M_Store_rows_of : Meth K C_Store "rows_of" f_Store_rows_of := ⟨a_Store_rows_of, i_Store_rows_of, k_Store_rows_of⟩
  have F_Store_with_row := fun_mk (st := s_Store_with_row) l_Store_with_row c_Store_with_row k_Store_with_row
  have b_Store_with_row := F_Store_with_row.binds (ps := ["self", "name", "row"]) fun _ _ _ _ _ _ us hl => match us, hl with | [_, _, _], _ => rfl
  have M_Store_with_row : Meth K C_Store "with_row" f_Store_with_row := ⟨a_Store_with_row, i_Store_with_row, k_Store_with_row⟩
  have F_Store_without_row := fun_mk (st := s_Store_without_row) l_Store_without_row c_Store_without_row k_Store_without_row
  have b_Store_without_row := F_Store_without_row.binds (ps := ["self", "name", "at"]) fun _ _ _ _ _ _ us hl => match us, hl with | [_, _, _], _ => rfl
  have M_Store_without_row : Meth K C_Store "without_row" f_Store_without_row := ⟨a_Store_without_row, i_Store_without_row, k_Store_without_row⟩
  have CL_Store : Cls K C_Store := ⟨pg_Store, hd_Store, po_Store, sa_Store⟩
  have XX_Store : InsX K C_Store := ⟨CL_Store, ha_Store, hn_Store, ht_Store, hm_Store, by simp only [List.mem_cons, List.not_mem_nil, or_false, forall_eq_or_imp, forall_eq]; exact ⟨kt_Store_NoneType, kt_Store_bool, kt_Store_int, kt_Store_str, kt_Store_list, kt_Store_tuple, kt_Store_dict⟩⟩
  have F_BadShape_init := fun_mk (st := s_BadShape_init) l_BadShape_init c_BadShape_init k_BadShape_init
  have b_BadShape_init := F_BadShape_init.binds (ps := ["self", "at"]) fun _ _ _ _ _ _ us hl => match us, hl with | [_, _], _ => rfl
  have O_BadShape : OexC K C_BadShape := ⟨⟨_, _, _, _, _, _, _, _, _, _, _, _, _, _, _, x_BadShape, (by show PySem.HandSPX.refsVE [.type "ValueError", .type "Exception", .type "BaseException", .type "object"] = true; decide +kernel)⟩, s_BadShape, e_BadShape, ty_BadShape, kk_BadShape⟩
  have ER_BadShape : ∀ base, Err l.prog w K mg base "BadShape" "at" C_BadShape := fun base => ⟨O_BadShape, PySem.W.mg_of X G m_BadShape, ⟨_, _, a_BadShape_init, t_BadShape_init, ok_BadShape_init F_BadShape_init O_BadShape no_BadShape, b_BadShape_init⟩, no_BadShape, ⟨ga_BadShape, gg_BadShape, e_BadShape, hd_BadShape⟩⟩
  have F_BadName_init := fun_mk (st := s_BadName_init) l_BadName_init c_BadName_init k_BadName_init
  have b_BadName_init := F_BadName_init.binds (ps := ["self", "value"]) fun _ _ _ _ _ _ us hl => match us, hl with | [_, _], _ => rfl
  have O_BadName : OexC K C_BadName := ⟨⟨_, _, _, _, _, _, _, _, _, _, _, _, _, _, _, x_BadName, (by show PySem.HandSPX.refsVE [.type "ValueError", .type "Exception", .type "BaseException", .type "object"] = true; decide +kernel)⟩, s_BadName, e_BadName, ty_BadName, kk_BadName⟩
  have ER_BadName : ∀ base, Err l.prog w K mg base "BadName" "value" C_BadName := fun base => ⟨O_BadName, PySem.W.mg_of X G m_BadName, ⟨_, _, a_BadName_init, t_BadName_init, ok_BadName_init F_BadName_init O_BadName no_BadName, b_BadName_init⟩, no_BadName, ⟨ga_BadName, gg_BadName, e_BadName, hd_BadName⟩⟩
  have F_BadRows_init := fun_mk (st := s_BadRows_init) l_BadRows_init c_BadRows_init k_BadRows_init
  have b_BadRows_init := F_BadRows_init.binds (ps := ["self", "value"]) fun _ _ _ _ _ _ us hl => match us, hl with | [_, _], _ => rfl
  have O_BadRows : OexC K C_BadRows := ⟨⟨_, _, _, _, _, _, _, _, _, _, _, _, _, _, _, x_BadRows, (by show PySem.HandSPX.refsVE [.type "ValueError", .type "Exception", .type "BaseException", .type "object"] = true; decide +kernel)⟩, s_BadRows, e_BadRows, ty_BadRows, kk_BadRows⟩
  have ER_BadRows : ∀ base, Err l.prog w K mg base "BadRows" "value" C_BadRows := fun base => ⟨O_BadRows, PySem.W.mg_of X G m_BadRows, ⟨_, _, a_BadRows_init, t_BadRows_init, ok_BadRows_init F_BadRows_init O_BadRows no_BadRows, b_BadRows_init⟩, no_BadRows, ⟨ga_BadRows, gg_BadRows, e_BadRows, hd_BadRows⟩⟩
  have F_BadIndex_init := fun_mk (st := s_BadIndex_init) l_BadIndex_init c_BadIndex_init k_BadIndex_init
  have b_BadIndex_init := F_BadIndex_init.binds (ps := ["self", "value"]) fun _ _ _ _ _ _ us hl => match us, hl with | [_, _], _ => rfl
  have O_BadIndex : OexC K C_BadIndex := ⟨⟨_, _, _, _, _, _, _, _, _, _, _, _, _, _, _, x_BadIndex, (by show PySem.HandSPX.refsVE [.type "ValueError", .type "Exception", .type "BaseException", .type "object"] = true; decide +kernel)⟩, s_BadIndex, e_BadIndex, ty_BadIndex, kk_BadIndex⟩
  have ER_BadIndex : ∀ base, Err l.prog w K mg base "BadIndex" "value" C_BadIndex := fun base => ⟨O_BadIndex, PySem.W.mg_of X G m_BadIndex, ⟨_, _, a_BadIndex_init, t_BadIndex_init, ok_BadIndex_init F_BadIndex_init O_BadIndex no_BadIndex, b_BadIndex_init⟩, no_BadIndex, ⟨ga_BadIndex, gg_BadIndex, e_BadIndex, hd_BadIndex⟩⟩
  have E0_TooMany : Err0 K mg "TooMany" C_TooMany := ⟨z0_TooMany, PySem.W.mg_of X G m_TooMany, kk_TooMany, e_TooMany, ty_TooMany⟩
  have F_law := fun_mk (st := s_law) l_law c_law k_law
  refine ⟨PySem.W.fnOf "law" "law" (defArgs s_law) (defBody s_law) (defScope s_law) .none kV_law dc_law pm_law an_law cd_law ct_law, fun s v => .of_eq rfl, fun base _ _ => ?_⟩
  have T : ShCls K mg C_Shape := ⟨CL_Shape, na_Shape_tables, PySem.W.mg_of X G m_Shape⟩
  have U : StCls K mg C_Store := ⟨CL_Store, na_Store_shape, na_Store_kept, PySem.W.mg_of X G m_Store⟩
  have G_is_row : ∀ base, Has l.prog w K mg base CX0 "is_row" ["thing"] 1 spIsRow := fun base => ok_is_row B D_is_row
  have G_is_integer : Has l.prog w K mg base CX0 "is_integer" ["thing"] 1 spInt := ok_is_integer B D_is_integer
  have G_is_value : Has l.prog w K mg base CX0 "is_value" ["thing"] 2 spIsVal := ok_is_value B N_MOST_VALUE D_is_value G_is_integer
  have G_are_values : Has l.prog w K mg base CX0 "are_values" ["thing", "many"] 3 spAreVals := ok_are_values B D_are_values (G_is_row base) G_is_value
  have G_is_name : ∀ base, Has l.prog w K mg base CX0 "is_name" ["thing"] 1 spIsName := fun base => ok_is_name B N_LETTERS D_is_name
  have G_are_names : ∀ base, Has l.prog w K mg base CX0 "are_names" ["thing", "least", "most"] 2 spAreNames := fun base => ok_are_names B D_are_names (G_is_row base) (G_is_name base)
  have G_is_table : ∀ base, Has l.prog w K mg base CX0 "is_table" ["thing"] 3 spIsTable := fun base => ok_is_table B D_is_table (G_is_name base) (G_are_names base)
  have G_check_rows : Has l.prog w K mg base CX0 "check_rows" ["shape", "rows"] 4 (spCheck C_Shape) := ok_check B D_check_rows T (G_is_row base) G_are_values
  have GI : FnOk l.prog w K mg base (L2.CX l.prog w) 4 f_Shape_init _ ["self", "tables"] (spShapeI C_Shape C_BadShape) := ok_shape_init B F_Shape_init T ER_BadShape G_is_row G_is_table
  have GF : FnOk l.prog w K mg base (L2.CX l.prog w) 3 f_Shape_fields_of _ ["self", "name"] (spFields C_Shape C_BadName) := ok_fields_of B F_Shape_fields_of T ER_BadName
  have nf0 : ∀ C : Addr, PySem.W.notFirst K C (.ref C) = true := fun C => by simp [PySem.W.notFirst]
  have MT : Mk K C_Store f_Store_init := ⟨mk_Store, a_Store_init, i_Store_init, kc_Store⟩
  have G_pick : Has l.prog w K mg base CX0 "_law_pick" ["_law_bag_here", "_law_many"] 1 spPick := ok_pick B D_law_pick
  have G_name : Has l.prog w K mg base CX0 "_law_name" ["_law_bag_here", "_law_taken"] 2 spName := ok_name B D_law_name G_pick
  have G_value : Has l.prog w K mg base CX0 "_law_value" ["_law_bag_here"] 2 spValue := ok_value B D_law_value G_pick
  have GS : FnOk l.prog w K mg base (L2.CX l.prog w) 5 f_Store_init _ ["self", "shape", "rows"] (spStoreT C_Store C_Shape C_TooMany) := ok_store_initT B F_Store_init T XX_Shape U N_MOST_ROWS E0_TooMany G_check_rows
  have GR : FnOk l.prog w K mg base CX0 4 f_Store_rows_of _ ["self", "name"] (spRowsOf C_Store C_Shape) := ok_rows_of B F_Store_rows_of T U GF b_Shape_fields_of M_Shape_fields_of
  have GW : FnOk l.prog w K mg base (L2.CX l.prog w) 7 f_Store_with_row _ ["self", "name", "row"] (spWithG C_Store C_Shape C_BadName C_BadRows C_TooMany) := ok_withG B F_Store_with_row T U ER_BadRows MT GF b_Shape_fields_of M_Shape_fields_of GS b_Store_init G_are_values
  have GO : FnOk l.prog w K mg base (L2.CX l.prog w) 7 f_Store_without_row _ ["self", "name", "at"] (spWoG C_Store C_Shape C_BadName C_BadIndex) := ok_woG B F_Store_without_row T U ER_BadIndex MT GF b_Shape_fields_of M_Shape_fields_of GS b_Store_init G_is_integer
  have G_checkB : Has l.prog w K mg base (L2.CX l.prog w) "check_rows" ["shape", "rows"] 4 (spCheckB C_Shape C_BadRows) := ok_checkB B D_check_rows T ER_BadRows (G_is_row base) G_are_values
  have GSB : FnOk l.prog w K mg base (L2.CX l.prog w) 5 f_Store_init _ ["self", "shape", "rows"] (spStoreB C_Store C_Shape C_BadRows) := ok_store_initB B F_Store_init T XX_Shape U N_MOST_ROWS E0_TooMany G_checkB
  have G_alike : Has l.prog w K mg base CX0 "_law_alike" ["_law_one", "_law_other"] 4 (spAlike 3) := ok_alike B D_law_alike 3
  have G_tells : Has l.prog w K mg base CX0 "_law_tells" ["_law_store", "_law_tables_here", "_law_rows"] 5 (spTells7 C_Store C_Shape) := ok_tells7 B D_law_tells U GR b_Store_rows_of M_Store_rows_of G_alike
  have G_made : Has l.prog w K mg base CX0 "_law_made" ["_law_shape", "_law_rows"] 7 (spMade7 C_Store C_Shape) := ok_made7 B D_law_made U MT (FnOk.or GS GSB) b_Store_init (PySem.W.mg_of X G m_TooMany) xm_TooMany_TooMany (PySem.W.mg_of X G m_BadRows) ⟨ga_BadRows, gg_BadRows, e_BadRows, hd_BadRows⟩ no_BadRows xm_BadRows_TooMany xm_BadRows_BadRows
  have G_put : Has l.prog w K mg base CX0 "_law_put" ["_law_store", "_law_name_here", "_law_row"] 8 (spPut7 C_Store C_Shape) := ok_put7 B D_law_put U GW b_Store_with_row M_Store_with_row (PySem.W.mg_of X G m_TooMany) xm_TooMany_TooMany (PySem.W.mg_of X G m_BadRows) ⟨ga_BadRows, gg_BadRows, e_BadRows, hd_BadRows⟩ no_BadRows xm_BadRows_TooMany xm_BadRows_BadRows (PySem.W.mg_of X G m_BadName) ⟨ga_BadName, gg_BadName, e_BadName, hd_BadName⟩ no_BadName xm_BadName_TooMany xm_BadName_BadRows xm_BadName_BadName
  have G_dealt : Has l.prog w K mg base CX0 "_law_dealt" ["_law_bag_here", "_law_tables_here", "_law_many"] 3 spDealt := ok_dealt B D_law_dealt G_pick G_value
  exact ok_law B F_law T U ⟨mk_Shape, a_Shape_init, i_Shape_init, kc_Shape⟩ GI b_Shape_init GO b_Store_without_row M_Store_without_row (ok_bag B D_law_bag) G_pick G_value (ok_tables B D_law_tables G_pick G_name) G_dealt G_alike G_tells G_made G_put
theorem walk {l : PySem.W.OpenLaw} {q : Program} {loose : List Str} {XP : (Str → Option Value) → Heap → Prop} {YP : World → Heap → Prop} {d : DefRec} {K : Params → PySem.W.Frag} (hn : l.most = some 63) (hdf : d.params.defaults = [])
    (hY : ∀ (w : World) (h : Heap), YP w h → (K w.params).In h)
    (F : ∀ (w : World) (mg : Str → Option Value) (fa : Addr) (h : Heap), (K w.params).In h → h.Ns mainGlobals mg → mg d.name = some (.ref fa) →
      ∃ fd : FuncData, (∀ (s : Shared) (u : Value), BindsTo s fd ⟨[u], []⟩ [("_law_script", u)]) ∧ ∀ base : Heap, (K w.params).In base → base.Ns mainGlobals mg → FnOk l.prog w (K w.params) mg base CX0 9 fa fd ["_law_script"] (spLaw (K w.params))) :
    PySem.W.WalkO q loose XP YP l.row.toRowW d [] (fun f vs => PySem.call f vs) :=
  L2.walk_of (n := 63) (k := 9) (x := "_law_script") (CX := fun _ => CX0) (sp := fun w => spLaw (K w.params)) hn (by decide) hdf ⟨rfl, by decide, by decide⟩ hY F (fun _ _ a ns hl _ hS => ⟨a, ns, rfl, hS, fun _ => rfl⟩) fun _ _ _ _ _ z => z
end Fm
open PySem PySem.W PyProof.Rows
set_option maxRecDepth 100000 in
set_option maxHeartbeats 0 in
theorem PySem.Challenge.cw_firstmet_k07_three_hundred_rows_holds : PySem.Challenge.rw_firstmet_k07_three_hundred_rows.Holds := by
  w_on; o_law; k_head; (case hw => w_witness2)
  k_fill
  refine Fm.walk (l := PySem.Challenge.rw_firstmet_k07_three_hundred_rows) rfl rfl (fun w h Y => PySem.W.kIn_of Y) ?F
  case F =>
    intro w mg fa h KX G hmg
    refine' Fm.all_mk KX G hmg ?z_len ?z_list ?z_tuple ?z_isinstance ?z_int ?z_range ?z_max ?z_all ?z_bool ?z_dict ?z_str ?z_enumerate ?n_LETTERS ?n_MOST_VALUE ?n_MOST_ROWS ?a_is_row ?l_is_row ?c_is_row ?k_is_row ?a_is_integer ?l_is_integer ?c_is_integer ?k_is_integer ?a_is_value ?l_is_value ?c_is_value ?k_is_value ?a_is_name ?l_is_name ?c_is_name ?k_is_name ?a_are_names ?l_are_names ?c_are_names ?k_are_names ?a_is_table ?l_is_table ?c_is_table ?k_is_table ?a_are_values ?l_are_values ?c_are_values ?k_are_values ?a_check_rows ?l_check_rows ?c_check_rows ?k_check_rows ?a_law_bag ?l_law_bag ?c_law_bag ?k_law_bag ?a_law_pick ?l_law_pick ?c_law_pick ?k_law_pick ?a_law_name ?l_law_name ?c_law_name ?k_law_name ?a_law_value ?l_law_value ?c_law_value ?k_law_value ?a_law_tables ?l_law_tables ?c_law_tables ?k_law_tables ?a_law_alike ?l_law_alike ?c_law_alike ?k_law_alike ?a_law_made ?l_law_made ?c_law_made ?k_law_made ?a_law_put ?l_law_put ?c_law_put ?k_law_put ?a_law_tells ?l_law_tells ?c_law_tells ?k_law_tells ?a_law_dealt ?l_law_dealt ?c_law_dealt ?k_law_dealt ?m_Shape ?a_Shape_init ?l_Shape_init ?c_Shape_init ?k_Shape_init ?i_Shape_init ?a_Shape_fields_of ?l_Shape_fields_of ?c_Shape_fields_of ?k_Shape_fields_of ?i_Shape_fields_of ?pg_Shape ?hd_Shape ?po_Shape ?sa_Shape ?mk_Shape ?kc_Shape ?na_Shape_tables ?ha_Shape ?hn_Shape ?ht_Shape ?hm_Shape ?ne_Shape ?ob_Shape ?kt_Shape_NoneType ?nf_Shape_NoneType ?kt_Shape_bool ?nf_Shape_bool ?kt_Shape_int ?nf_Shape_int ?kt_Shape_str ?nf_Shape_str ?kt_Shape_list ?nf_Shape_list ?kt_Shape_tuple ?nf_Shape_tuple ?kt_Shape_dict ?nf_Shape_dict ?m_Store ?a_Store_init ?l_Store_init ?c_Store_init ?k_Store_init ?i_Store_init ?a_Store_rows_of ?l_Store_rows_of ?c_Store_rows_of ?k_Store_rows_of ?i_Store_rows_of ?a_Store_with_row ?l_Store_with_row ?c_Store_with_row ?k_Store_with_row ?i_Store_with_row ?a_Store_without_row ?l_Store_without_row ?c_Store_without_row ?k_Store_without_row ?i_Store_without_row ?pg_Store ?hd_Store ?po_Store ?sa_Store ?mk_Store ?kc_Store ?na_Store_shape ?na_Store_kept ?ha_Store ?hn_Store ?ht_Store ?hm_Store ?ne_Store ?ob_Store ?kt_Store_NoneType ?nf_Store_NoneType ?kt_Store_bool ?nf_Store_bool ?kt_Store_int ?nf_Store_int ?kt_Store_str ?nf_Store_str ?kt_Store_list ?nf_Store_list ?kt_Store_tuple ?nf_Store_tuple ?kt_Store_dict ?nf_Store_dict ?m_BadShape ?x_BadShape ?s_BadShape ?ga_BadShape ?gg_BadShape ?no_BadShape ?a_BadShape_init ?l_BadShape_init ?c_BadShape_init ?k_BadShape_init ?t_BadShape_init ?e_BadShape ?ty_BadShape ?kk_BadShape ?hd_BadShape ?m_BadName ?x_BadName ?s_BadName ?ga_BadName ?gg_BadName ?no_BadName ?a_BadName_init ?l_BadName_init ?c_BadName_init ?k_BadName_init ?t_BadName_init ?e_BadName ?ty_BadName ?kk_BadName ?hd_BadName ?m_BadRows ?x_BadRows ?s_BadRows ?ga_BadRows ?gg_BadRows ?no_BadRows ?a_BadRows_init ?l_BadRows_init ?c_BadRows_init ?k_BadRows_init ?t_BadRows_init ?e_BadRows ?ty_BadRows ?kk_BadRows ?hd_BadRows ?m_BadIndex ?x_BadIndex ?s_BadIndex ?ga_BadIndex ?gg_BadIndex ?no_BadIndex ?a_BadIndex_init ?l_BadIndex_init ?c_BadIndex_init ?k_BadIndex_init ?t_BadIndex_init ?e_BadIndex ?ty_BadIndex ?kk_BadIndex ?hd_BadIndex ?m_TooMany ?z0_TooMany ?kk_TooMany ?e_TooMany ?ty_TooMany ?xm_TooMany_TooMany ?xm_BadRows_TooMany ?xm_BadRows_BadRows ?xm_BadName_TooMany ?xm_BadName_BadRows ?xm_BadName_BadName ?a_law ?l_law ?c_law ?k_law
    (case z_len => k_is)
    (case z_list => k_is)
    (case z_tuple => k_is)
    (case z_isinstance => k_is)
    (case z_int => k_is)
    (case z_range => k_is)
    (case z_max => k_is)
    (case z_all => k_is)
    (case z_bool => k_is)
    (case z_dict => k_is)
    (case z_str => k_is)
    (case z_enumerate => k_is)
    (case n_LETTERS => k_is)
    (case n_MOST_VALUE => k_is)
    (case n_MOST_ROWS => k_is)
    (case a_is_row => k_is)
    (case l_is_row => k_is)
    (case c_is_row => k_is)
    (case k_is_row => k_is)
    (case a_is_integer => k_is)
    (case l_is_integer => k_is)
    (case c_is_integer => k_is)
    (case k_is_integer => k_is)
    (case a_is_value => k_is)
    (case l_is_value => k_is)
    (case c_is_value => k_is)
    (case k_is_value => k_is)
    (case a_is_name => k_is)
    (case l_is_name => k_is)
    (case c_is_name => k_is)
    (case k_is_name => k_is)
    (case a_are_names => k_is)
    (case l_are_names => k_is)
    (case c_are_names => k_is)
    (case k_are_names => k_is)
    (case a_is_table => k_is)
    (case l_is_table => k_is)
    (case c_is_table => k_is)
    (case k_is_table => k_is)
    (case a_are_values => k_is)
    (case l_are_values => k_is)
    (case c_are_values => k_is)
    (case k_are_values => k_is)
    (case a_check_rows => k_is)
    (case l_check_rows => k_is)
    (case c_check_rows => k_is)
    (case k_check_rows => k_is)
    (case a_law_bag => k_is)
    (case l_law_bag => k_is)
    (case c_law_bag => k_is)
    (case k_law_bag => k_is)
    (case a_law_pick => k_is)
    (case l_law_pick => k_is)
    (case c_law_pick => k_is)
    (case k_law_pick => k_is)
    (case a_law_name => k_is)
    (case l_law_name => k_is)
    (case c_law_name => k_is)
    (case k_law_name => k_is)
    (case a_law_value => k_is)
    (case l_law_value => k_is)
    (case c_law_value => k_is)
    (case k_law_value => k_is)
    (case a_law_tables => k_is)
    (case l_law_tables => k_is)
    (case c_law_tables => k_is)
    (case k_law_tables => k_is)
    (case a_law_alike => k_is)
    (case l_law_alike => k_is)
    (case c_law_alike => k_is)
    (case k_law_alike => k_is)
    (case a_law_made => k_is)
    (case l_law_made => k_is)
    (case c_law_made => k_is)
    (case k_law_made => k_is)
    (case a_law_put => k_is)
    (case l_law_put => k_is)
    (case c_law_put => k_is)
    (case k_law_put => k_is)
    (case a_law_tells => k_is)
    (case l_law_tells => k_is)
    (case c_law_tells => k_is)
    (case k_law_tells => k_is)
    (case a_law_dealt => k_is)
    (case l_law_dealt => k_is)
    (case c_law_dealt => k_is)
    (case k_law_dealt => k_is)
    (case m_Shape => k_is)
    (case a_Shape_init => k_is)
    (case l_Shape_init => k_is)
    (case c_Shape_init => k_is)
    (case k_Shape_init => k_is)
    (case i_Shape_init => k_is)
    (case a_Shape_fields_of => k_is)
    (case l_Shape_fields_of => k_is)
    (case c_Shape_fields_of => k_is)
    (case k_Shape_fields_of => k_is)
    (case i_Shape_fields_of => k_is)
    (case pg_Shape => k_is)
    (case hd_Shape => k_is)
    (case po_Shape => k_is)
    (case sa_Shape => k_is)
    (case mk_Shape => k_is)
    (case kc_Shape => k_is)
    (case na_Shape_tables => k_is)
    (case ha_Shape => k_is)
    (case hn_Shape => k_is)
    (case ht_Shape => k_is)
    (case hm_Shape => k_is)
    (case ne_Shape => k_is)
    (case ob_Shape => k_is)
    (case kt_Shape_NoneType => (first | kit_is | rfl | kernel_rfl))
    (case nf_Shape_NoneType => k_is)
    (case kt_Shape_bool => (first | kit_is | rfl | kernel_rfl))
    (case nf_Shape_bool => k_is)
    (case kt_Shape_int => (first | kit_is | rfl | kernel_rfl))
    (case nf_Shape_int => k_is)
    (case kt_Shape_str => (first | kit_is | rfl | kernel_rfl))
    (case nf_Shape_str => k_is)
    (case kt_Shape_list => (first | kit_is | rfl | kernel_rfl))
    (case nf_Shape_list => k_is)
    (case kt_Shape_tuple => (first | kit_is | rfl | kernel_rfl))
    (case nf_Shape_tuple => k_is)
    (case kt_Shape_dict => (first | kit_is | rfl | kernel_rfl))
    (case nf_Shape_dict => k_is)
    (case m_Store => k_is)
    (case a_Store_init => k_is)
    (case l_Store_init => k_is)
    (case c_Store_init => k_is)
    (case k_Store_init => k_is)
    (case i_Store_init => k_is)
    (case a_Store_rows_of => k_is)
    (case l_Store_rows_of => k_is)
    (case c_Store_rows_of => k_is)
    (case k_Store_rows_of => k_is)
    (case i_Store_rows_of => k_is)
    (case a_Store_with_row => k_is)
    (case l_Store_with_row => k_is)
    (case c_Store_with_row => k_is)
    (case k_Store_with_row => k_is)
    (case i_Store_with_row => k_is)
    (case a_Store_without_row => k_is)
    (case l_Store_without_row => k_is)
    (case c_Store_without_row => k_is)
    (case k_Store_without_row => k_is)
    (case i_Store_without_row => k_is)
    (case pg_Store => k_is)
    (case hd_Store => k_is)
    (case po_Store => k_is)
    (case sa_Store => k_is)
    (case mk_Store => k_is)
    (case kc_Store => k_is)
    (case na_Store_shape => k_is)
    (case na_Store_kept => k_is)
    (case ha_Store => k_is)
    (case hn_Store => k_is)
    (case ht_Store => k_is)
    (case hm_Store => k_is)
    (case ne_Store => k_is)
    (case ob_Store => k_is)
    (case kt_Store_NoneType => (first | kit_is | rfl | kernel_rfl))
    (case nf_Store_NoneType => k_is)
    (case kt_Store_bool => (first | kit_is | rfl | kernel_rfl))
    (case nf_Store_bool => k_is)
    (case kt_Store_int => (first | kit_is | rfl | kernel_rfl))
    (case nf_Store_int => k_is)
    (case kt_Store_str => (first | kit_is | rfl | kernel_rfl))
    (case nf_Store_str => k_is)
    (case kt_Store_list => (first | kit_is | rfl | kernel_rfl))
    (case nf_Store_list => k_is)
    (case kt_Store_tuple => (first | kit_is | rfl | kernel_rfl))
    (case nf_Store_tuple => k_is)
    (case kt_Store_dict => (first | kit_is | rfl | kernel_rfl))
    (case nf_Store_dict => k_is)
    (case m_BadShape => k_is)
    (case x_BadShape => k_is)
    (case s_BadShape => k_is)
    (case ga_BadShape => k_is)
    (case gg_BadShape => k_is)
    (case no_BadShape => k_is)
    (case a_BadShape_init => k_is)
    (case l_BadShape_init => k_is)
    (case c_BadShape_init => k_is)
    (case k_BadShape_init => k_is)
    (case t_BadShape_init => k_is)
    (case e_BadShape => k_is)
    (case ty_BadShape => k_is)
    (case kk_BadShape => k_is)
    (case hd_BadShape => k_is)
    (case m_BadName => k_is)
    (case x_BadName => k_is)
    (case s_BadName => k_is)
    (case ga_BadName => k_is)
    (case gg_BadName => k_is)
    (case no_BadName => k_is)
    (case a_BadName_init => k_is)
    (case l_BadName_init => k_is)
    (case c_BadName_init => k_is)
    (case k_BadName_init => k_is)
    (case t_BadName_init => k_is)
    (case e_BadName => k_is)
    (case ty_BadName => k_is)
    (case kk_BadName => k_is)
    (case hd_BadName => k_is)
    (case m_BadRows => k_is)
    (case x_BadRows => k_is)
    (case s_BadRows => k_is)
    (case ga_BadRows => k_is)
    (case gg_BadRows => k_is)
    (case no_BadRows => k_is)
    (case a_BadRows_init => k_is)
    (case l_BadRows_init => k_is)
    (case c_BadRows_init => k_is)
    (case k_BadRows_init => k_is)
    (case t_BadRows_init => k_is)
    (case e_BadRows => k_is)
    (case ty_BadRows => k_is)
    (case kk_BadRows => k_is)
    (case hd_BadRows => k_is)
    (case m_BadIndex => k_is)
    (case x_BadIndex => k_is)
    (case s_BadIndex => k_is)
    (case ga_BadIndex => k_is)
    (case gg_BadIndex => k_is)
    (case no_BadIndex => k_is)
    (case a_BadIndex_init => k_is)
    (case l_BadIndex_init => k_is)
    (case c_BadIndex_init => k_is)
    (case k_BadIndex_init => k_is)
    (case t_BadIndex_init => k_is)
    (case e_BadIndex => k_is)
    (case ty_BadIndex => k_is)
    (case kk_BadIndex => k_is)
    (case hd_BadIndex => k_is)
    (case m_TooMany => k_is)
    (case z0_TooMany => k_exc)
    (case kk_TooMany => k_is)
    (case e_TooMany => k_is)
    (case ty_TooMany => k_is)
    (case xm_TooMany_TooMany => (first | rfl | kernel_rfl))
    (case xm_BadRows_TooMany => (first | rfl | kernel_rfl))
    (case xm_BadRows_BadRows => (first | rfl | kernel_rfl))
    (case xm_BadName_TooMany => (first | rfl | kernel_rfl))
    (case xm_BadName_BadRows => (first | rfl | kernel_rfl))
    (case xm_BadName_BadName => (first | rfl | kernel_rfl))
    (case a_law => k_is)
    (case l_law => k_is)
    (case c_law => k_is)
    (case k_law => k_is)
